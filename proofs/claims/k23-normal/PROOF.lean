import PyProof.Rows.All
import Wide.All
import OpenK.AllK
import Wide.FinOn
import HandS.Base
import HandS.Call
import HandS.More
import HandS.Replace
import HandS.List
import HandS.Comp
import HandS.Dict
import HandS.Iter
import HandS.Text
import HandS.Words
import HandS.Exc
import HandS.ExcOwn
import HandS.TryMany
import HandS.ExcCtx
import HandS.Conv
import HandS.Flow
import HandS.Style
import HandS.Rev
import HandS.RevRange
import HandS.TupAny
import HandS.Defaults
import HandS.Deep
import HandS.IsInst
import HandS.ExcIs
import HandS.Hot
import HandS.HotCalls
import HandS.SortInts
import KE.KRevSl
import KE.KSortedM
import KE.DatumOrd
import HandS.SortKw
import HandS.Head0
import HandS.Head1
import HandS.Head2
import HandS.HeadEnd
import HandS.HeadHook1
import HandS.HeadHook2
import HandS.HeadHook3
import HandS.HeadHook4
import KE.KStateDown
import HandS.WordsExc
import HandS.Ends
import Lean
import PySem.Challenge.RW_keeper_k23_normal
set_option Elab.async false
set_option linter.all false
set_option maxRecDepth 100000
set_option maxHeartbeats 4000000
/-! K1: the evaluator's values, the store, and what they mean in the abstract heap. -/
namespace Kp
open PySem PySem.Spec PyProof.Rows L2

abbrev P := PyData
inductive PV where
  | p (x : P)
  | loc (i : Nat)
  | mt (xs : List PV)
  | exc (c : Nat)
inductive Cell where
  | lst (xs : List P)
  | dct (kvs : List (Key × P))
abbrev Sto := List Cell
set_option autoImplicit false
abbrev En := List (Option PV)

mutual
def pdB : PyData → PyData → Bool
  | .none, .none => true
  | .bool a, .bool b => a == b
  | .int a, .int b => a == b
  | .str a, .str b => decide (a = b)
  | .list a, .list b => pdBs a b
  | .tuple a, .tuple b => pdBs a b
  | _, _ => false
def pdBs : List PyData → List PyData → Bool
  | [], [] => true
  | x :: xs, y :: ys => pdB x y && pdBs xs ys
  | _, _ => false
end
mutual
theorem pdB_eq : ∀ a b : PyData, pdB a b = true → a = b
  | .none, .none, _ => rfl
  | .bool a, .bool b, h => by simp [pdB] at h; rw [h]
  | .int a, .int b, h => by simp [pdB] at h; rw [h]
  | .str a, .str b, h => by simp [pdB] at h; rw [h]
  | .list a, .list b, h => by simp [pdB] at h; rw [pdBs_eq a b h]
  | .tuple a, .tuple b, h => by simp [pdB] at h; rw [pdBs_eq a b h]
  | .none, .bool _, h | .none, .int _, h | .none, .str _, h | .none, .list _, h | .none, .tuple _, h | .none, .dict _, h => by simp [pdB] at h
  | .bool _, .none, h | .bool _, .int _, h | .bool _, .str _, h | .bool _, .list _, h | .bool _, .tuple _, h | .bool _, .dict _, h => by simp [pdB] at h
  | .int _, .none, h | .int _, .bool _, h | .int _, .str _, h | .int _, .list _, h | .int _, .tuple _, h | .int _, .dict _, h => by simp [pdB] at h
  | .str _, .none, h | .str _, .bool _, h | .str _, .int _, h | .str _, .list _, h | .str _, .tuple _, h | .str _, .dict _, h => by simp [pdB] at h
  | .list _, .none, h | .list _, .bool _, h | .list _, .int _, h | .list _, .str _, h | .list _, .tuple _, h | .list _, .dict _, h => by simp [pdB] at h
  | .tuple _, .none, h | .tuple _, .bool _, h | .tuple _, .int _, h | .tuple _, .str _, h | .tuple _, .list _, h | .tuple _, .dict _, h => by simp [pdB] at h
  | .dict _, .none, h | .dict _, .bool _, h | .dict _, .int _, h | .dict _, .str _, h | .dict _, .list _, h | .dict _, .tuple _, h | .dict _, .dict _, h => by simp [pdB] at h
theorem pdBs_eq : ∀ a b : List PyData, pdBs a b = true → a = b
  | [], [], _ => rfl
  | x :: xs, y :: ys, h => by simp [pdBs] at h; rw [pdB_eq x y h.1, pdBs_eq xs ys h.2]
  | [], _ :: _, h => by simp [pdBs] at h
  | _ :: _, [], h => by simp [pdBs] at h
end

/-! ### what stays -/
def Still : HO → Prop
  | .tup _ => True
  | .frz _ _ => True
  | _ => False
def Keep (H H' : Hp) : Prop := ∀ b o, H b = some o → Still o → H' b = some o
theorem Keep.refl (H : Hp) : Keep H H := fun _ _ h _ => h
theorem Keep.trans {H H1 H2 : Hp} (a : Keep H H1) (b : Keep H1 H2) : Keep H H2 := fun c o h s => b c o (a c o h s) s
theorem Keep.fresh {H : Hp} {p : Addr} (o : HO) (h : H p = none) : Keep H (upd H p o) := fun b u q _ => by
  rw [upd_ne (ne_of_none q h)]; exact q
theorem Keep.write {H : Hp} {p : Addr} {u : HO} (o : HO) (h : H p = some u) (n : ¬ Still u) : Keep H (upd H p o) := fun b w q s => by
  by_cases e : b = p
  · subst e; rw [h] at q; cases q; exact absurd s n
  · rw [upd_ne e]; exact q

/-- a list that nobody changes -/
def FrzL (K : PySem.W.Frag) (H : Hp) (a : Addr) (xs : List V) : Prop :=
  (∃ o, H a = some (.frz o (.lst xs))) ∨
    ∃ (o : Obj) (its : Array Value) (n : Nat), K.lookup a = some o ∧ o.cls = .type "list" ∧ o.dict = none ∧ o.data = .seq its n ∧ its.size ≤ sizeLine ∧ Vals xs its.toList
theorem FrzL.sq {K : PySem.W.Frag} {H : Hp} {a : Addr} {xs : List V} (h : FrzL K H a xs) : SqL K H a xs := by
  rcases h with ⟨o, h⟩ | h
  · exact .inl (.inr ⟨o, h⟩)
  · exact .inr h
theorem FrzL.keep {K : PySem.W.Frag} {H H' : Hp} {a : Addr} {xs : List V} (k : Keep H H') (h : FrzL K H a xs) : FrzL K H' a xs := by
  rcases h with ⟨o, h⟩ | h
  · exact .inl ⟨o, k _ _ h True.intro⟩
  · exact .inr h
theorem sqT_keep {K : PySem.W.Frag} {H H' : Hp} {a : Addr} {xs : List V} (k : Keep H H') (h : SqT K H a xs) : SqT K H' a xs := by
  rcases h with (h | ⟨o, h⟩) | h
  · exact .inl (.inl (k _ _ h True.intro))
  · exact .inl (.inr ⟨o, k _ _ h True.intro⟩)
  · exact .inr h

/-! ### values in the heap -/
mutual
inductive RelP (K : PySem.W.Frag) (H : Hp) : P → V → Prop
  | non : RelP K H .none .non
  | bl (b : Bool) : RelP K H (.bool b) (.bl b)
  | int (i : Int) : RelP K H (.int i) (.int i)
  | str (x : Str) : RelP K H (.str x) (.str x)
  | lst {a : Addr} {ds : List P} {xs : List V} : FrzL K H a xs → RelPs K H ds xs → RelP K H (.list ds) (.ref a)
  | tup {a : Addr} {ds : List P} {xs : List V} : SqT K H a xs → RelPs K H ds xs → RelP K H (.tuple ds) (.ref a)
inductive RelPs (K : PySem.W.Frag) (H : Hp) : List P → List V → Prop
  | nil : RelPs K H [] []
  | cons {d : P} {ds : List P} {x : V} {xs : List V} : RelP K H d x → RelPs K H ds xs → RelPs K H (d :: ds) (x :: xs)
end
section
variable {K : PySem.W.Frag} {H H' : Hp}
mutual
theorem RelP.keep (k : Keep H H') : ∀ (d : P) (x : V), RelP K H d x → RelP K H' d x
  | .none, _, h => by cases h; exact .non
  | .bool _, _, h => by cases h; exact .bl _
  | .int _, _, h => by cases h; exact .int _
  | .str _, _, h => by cases h; exact .str _
  | .list ds, _, h => by
    cases h with
    | lst a b => exact .lst (a.keep k) (RelPs.keep k ds _ b)
  | .tuple ds, _, h => by
    cases h with
    | tup a b => exact .tup (sqT_keep k a) (RelPs.keep k ds _ b)
  | .dict _, _, h => by cases h
theorem RelPs.keep (k : Keep H H') : ∀ (ds : List P) (xs : List V), RelPs K H ds xs → RelPs K H' ds xs
  | [], _, h => by cases h; exact .nil
  | d :: ds, _, h => by
    cases h with
    | cons a b => exact .cons (RelP.keep k d _ a) (RelPs.keep k ds _ b)
end
theorem RelPs.length : ∀ {ds : List P} {xs : List V}, RelPs K H ds xs → ds.length = xs.length
  | [], _, h => by cases h; rfl
  | _ :: _, _, h => by
    cases h with
    | cons _ b => simp [RelPs.length b]
theorem RelPs.get : ∀ {ds : List P} {xs : List V} {i : Nat} {d : P}, RelPs K H ds xs → ds[i]? = some d → ∃ x, xs[i]? = some x ∧ RelP K H d x
  | [], _, _, _, h, e => by simp at e
  | _ :: _, _, 0, _, h, e => by
    cases h with
    | cons a _ => simp at e; subst e; exact ⟨_, rfl, a⟩
  | _ :: _, _, i + 1, _, h, e => by
    cases h with
    | cons _ b =>
      obtain ⟨x, h1, h2⟩ := RelPs.get (i := i) b (by simpa using e)
      exact ⟨x, by simpa using h1, h2⟩
theorem RelPs.get' : ∀ {ds : List P} {xs : List V} {i : Nat} {x : V}, RelPs K H ds xs → xs[i]? = some x → ∃ d, ds[i]? = some d ∧ RelP K H d x
  | [], _, _, _, h, e => by cases h; simp at e
  | _ :: _, _, 0, _, h, e => by
    cases h with
    | cons a _ => simp at e; subst e; exact ⟨_, rfl, a⟩
  | _ :: _, _, i + 1, _, h, e => by
    cases h with
    | cons _ b =>
      obtain ⟨x, h1, h2⟩ := RelPs.get' (i := i) b (by simpa using e)
      exact ⟨x, by simpa using h1, h2⟩
theorem RelPs.append : ∀ {ds es : List P} {xs ys : List V}, RelPs K H ds xs → RelPs K H es ys → RelPs K H (ds ++ es) (xs ++ ys)
  | [], _, _, _, h, g => by cases h; exact g
  | _ :: _, _, _, _, h, g => by
    cases h with
    | cons a b => exact .cons a (RelPs.append b g)
theorem RelPs.take : ∀ {ds : List P} {xs : List V} (n : Nat), RelPs K H ds xs → RelPs K H (ds.take n) (xs.take n)
  | [], _, n, h => by cases h; simp; exact .nil
  | _ :: _, _, 0, h => .nil
  | _ :: _, _, n + 1, h => by
    cases h with
    | cons a b => exact .cons a (RelPs.take n b)
theorem RelPs.drop : ∀ {ds : List P} {xs : List V} (n : Nat), RelPs K H ds xs → RelPs K H (ds.drop n) (xs.drop n)
  | [], _, n, h => by cases h; simp; exact .nil
  | _ :: _, _, 0, h => h
  | _ :: _, _, n + 1, h => by
    cases h with
    | cons _ b => exact RelPs.drop n b
theorem RelPs.set : ∀ {ds : List P} {xs : List V} (i : Nat) {d : P} {x : V}, RelP K H d x → RelPs K H ds xs → RelPs K H (ds.set i d) (xs.set i x)
  | [], _, _, _, _, _, h => by cases h; exact .nil
  | _ :: _, _, 0, _, _, r, h => by
    cases h with
    | cons _ b => exact .cons r b
  | _ :: _, _, i + 1, _, _, r, h => by
    cases h with
    | cons a b => exact .cons a (RelPs.set i r b)
theorem RelPs.dropLast : ∀ {ds : List P} {xs : List V}, RelPs K H ds xs → RelPs K H ds.dropLast xs.dropLast
  | [], _, h => by cases h; exact .nil
  | [_], _, h => by
    cases h with
    | cons _ b => cases b; exact .nil
  | _ :: _ :: _, _, h => by
    cases h with
    | cons a b =>
      cases b with
      | cons c d => exact .cons a (RelPs.dropLast (.cons c d))
theorem RelPs.reverse {ds : List P} {xs : List V} (h : RelPs K H ds xs) : RelPs K H ds.reverse xs.reverse := by
  induction ds generalizing xs with
  | nil => cases h; exact .nil
  | cons d ds ih =>
    cases h with
    | cons a b => rw [List.reverse_cons, List.reverse_cons]; exact (ih b).append (.cons a .nil)
theorem RelPs.rep {ds : List P} {xs : List V} (h : RelPs K H ds xs) : ∀ k : Nat, RelPs K H (List.replicate k ds).flatten (List.replicate k xs).flatten
  | 0 => by simp; exact .nil
  | k + 1 => by
    rw [List.replicate_succ, List.replicate_succ, List.flatten_cons, List.flatten_cons]
    exact h.append (RelPs.rep h k)
theorem RelPs.erase : ∀ {ds : List P} {xs : List V} (i : Nat), RelPs K H ds xs → RelPs K H (ds.eraseIdx i) (xs.eraseIdx i)
  | [], _, _, h => by cases h; exact .nil
  | _ :: _, _, 0, h => by
    cases h with
    | cons _ b => exact b
  | _ :: _, _, i + 1, h => by
    cases h with
    | cons a b => exact .cons a (RelPs.erase i b)
theorem RelPs.ints : ∀ {ns : List Int}, RelPs K H (ns.map .int) (ns.map V.int)
  | [] => .nil
  | _ :: _ => .cons (.int _) RelPs.ints
theorem RelPs.toInts : ∀ {ns : List Int} {xs : List V}, RelPs K H (ns.map .int) xs → xs = ns.map V.int
  | [], _, h => by cases h; rfl
  | _ :: _, _, h => by
    cases h with
    | cons a b => cases a; rw [RelPs.toInts b]; rfl
theorem RelPs.toStrs : ∀ {ns : List Str} {xs : List V}, RelPs K H (ns.map .str) xs → xs = ns.map V.str
  | [], _, h => by cases h; rfl
  | _ :: _, _, h => by
    cases h with
    | cons a b => cases a; rw [RelPs.toStrs b]; rfl
theorem RelPs.toBls : ∀ {ns : List Bool} {xs : List V}, RelPs K H (ns.map .bool) xs → xs = ns.map V.bl
  | [], _, h => by cases h; rfl
  | _ :: _, _, h => by
    cases h with
    | cons a b => cases a; rw [RelPs.toBls b]; rfl
theorem RelPs.strs : ∀ {ns : List Str}, RelPs K H (ns.map .str) (ns.map V.str)
  | [] => .nil
  | _ :: _ => .cons (.str _) RelPs.strs
/-! for == -/
mutual
theorem RelP.dp : ∀ (d : P) (x : V), RelP K H d x → Dp K H x d
  | .none, _, h => by cases h; exact .non
  | .bool _, _, h => by cases h; exact .bl _
  | .int _, _, h => by cases h; exact .int _
  | .str _, _, h => by cases h; exact .str _
  | .list ds, _, h => by
    cases h with
    | lst a b => exact .lst a.sq (RelPs.dp ds _ b)
  | .tuple ds, _, h => by
    cases h with
    | tup a b => exact .tup a (RelPs.dp ds _ b)
  | .dict _, _, h => by cases h
theorem RelPs.dp : ∀ (ds : List P) (xs : List V), RelPs K H ds xs → DpAll K H xs ds
  | [], _, h => by cases h; exact .nil
  | d :: ds, _, h => by
    cases h with
    | cons a b => exact .cons (RelP.dp d _ a) (RelPs.dp ds _ b)
end
end

/-! ### locations -/
/-- the exceptions at hand: classes, addresses -/
class Xc where
  at' : Nat → Addr → Prop
def xc0 : Xc := ⟨fun _ _ => False⟩
mutual
inductive RelQ [Xc] (K : PySem.W.Frag) (H : Hp) (ρ : Nat → Addr) (L : Nat) : PV → V → Prop
  | p {d : P} {x : V} : RelP K H d x → RelQ K H ρ L (.p d) x
  | loc {i : Nat} : i < L → RelQ K H ρ L (.loc i) (.ref (ρ i))
  | mt {a : Addr} {ds : List PV} {xs : List V} : SqT K H a xs → RelQs K H ρ L ds xs → RelQ K H ρ L (.mt ds) (.ref a)
  | exc {c : Nat} {a : Addr} : Xc.at' c a → RelQ K H ρ L (.exc c) (.ref a)
inductive RelQs [Xc] (K : PySem.W.Frag) (H : Hp) (ρ : Nat → Addr) (L : Nat) : List PV → List V → Prop
  | nil : RelQs K H ρ L [] []
  | cons {d : PV} {ds : List PV} {x : V} {xs : List V} : RelQ K H ρ L d x → RelQs K H ρ L ds xs → RelQs K H ρ L (d :: ds) (x :: xs)
end
def RelKs (K : PySem.W.Frag) (H : Hp) : List (Key × P) → List (Key × V) → Prop := Paired fun p q => p.1 = q.1 ∧ RelP K H p.2 q.2
def CellOk (K : PySem.W.Frag) (H : Hp) (a : Addr) : Cell → Prop
  | .lst ds => ∃ xs, H a = some (.lst xs) ∧ RelPs K H ds xs
  | .dct kvs => ∃ ws, H a = some (.dK ws) ∧ RelKs K H kvs ws
structure Sim (K : PySem.W.Frag) (ρ : Nat → Addr) (S : Sto) (H : Hp) : Prop where
  cell : ∀ i c, S[i]? = some c → CellOk K H (ρ i) c
  inj : ∀ i j, i < S.length → j < S.length → ρ i = ρ j → i = j
structure Ext (ρ : Nat → Addr) (S : Sto) (H : Hp) (ρ' : Nat → Addr) (S' : Sto) (H' : Hp) : Prop where
  le : S.length ≤ S'.length
  same : ∀ i, i < S.length → ρ' i = ρ i
  keep : Keep H H'
theorem Ext.refl {ρ : Nat → Addr} {S : Sto} {H : Hp} : Ext ρ S H ρ S H := ⟨Nat.le_refl _, fun _ _ => rfl, Keep.refl _⟩
theorem Ext.trans {ρ ρ1 ρ2 : Nat → Addr} {S S1 S2 : Sto} {H H1 H2 : Hp} (a : Ext ρ S H ρ1 S1 H1) (b : Ext ρ1 S1 H1 ρ2 S2 H2) : Ext ρ S H ρ2 S2 H2 :=
  ⟨Nat.le_trans a.le b.le, fun i h => (b.same i (Nat.lt_of_lt_of_le h a.le)).trans (a.same i h), a.keep.trans b.keep⟩
section
variable [Xc] {K : PySem.W.Frag} {ρ ρ' : Nat → Addr} {S S' : Sto} {H H' : Hp} {L L' : Nat}
mutual
theorem RelQ.mono (k : Keep H H') (hl : L ≤ L') (hs : ∀ i, i < L → ρ' i = ρ i) : ∀ (d : PV) (x : V), RelQ K H ρ L d x → RelQ K H' ρ' L' d x
  | .p d, _, h => by
    cases h with
    | p r => exact .p (r.keep k)
  | .loc i, _, h => by
    cases h with
    | loc r => rw [← hs i r]; exact .loc (Nat.lt_of_lt_of_le r hl)
  | .mt ds, _, h => by
    cases h with
    | mt a b => exact .mt (sqT_keep k a) (RelQs.mono k hl hs ds _ b)
  | .exc c, _, h => by
    cases h with
    | exc r => exact .exc r
theorem RelQs.mono (k : Keep H H') (hl : L ≤ L') (hs : ∀ i, i < L → ρ' i = ρ i) : ∀ (ds : List PV) (xs : List V), RelQs K H ρ L ds xs → RelQs K H' ρ' L' ds xs
  | [], _, h => by cases h; exact .nil
  | d :: ds, _, h => by
    cases h with
    | cons a b => exact .cons (RelQ.mono k hl hs d _ a) (RelQs.mono k hl hs ds _ b)
end
theorem RelQ.ext {d : PV} {x : V} (h : RelQ K H ρ S.length d x) (e : Ext ρ S H ρ' S' H') : RelQ K H' ρ' S'.length d x := h.mono e.keep e.le e.same
theorem RelQs.ext {d : List PV} {x : List V} (h : RelQs K H ρ S.length d x) (e : Ext ρ S H ρ' S' H') : RelQs K H' ρ' S'.length d x := h.mono e.keep e.le e.same
theorem RelQs.length : ∀ {ds : List PV} {xs : List V}, RelQs K H ρ L ds xs → ds.length = xs.length
  | [], _, h => by cases h; rfl
  | _ :: _, _, h => by
    cases h with
    | cons _ b => simp [RelQs.length b]
theorem RelQs.get : ∀ {ds : List PV} {xs : List V} {i : Nat} {d : PV}, RelQs K H ρ L ds xs → ds[i]? = some d → ∃ x, xs[i]? = some x ∧ RelQ K H ρ L d x
  | [], _, _, _, h, e => by simp at e
  | _ :: _, _, 0, _, h, e => by
    cases h with
    | cons a _ => simp at e; subst e; exact ⟨_, rfl, a⟩
  | _ :: _, _, i + 1, _, h, e => by
    cases h with
    | cons _ b =>
      obtain ⟨x, h1, h2⟩ := RelQs.get (i := i) b (by simpa using e)
      exact ⟨x, by simpa using h1, h2⟩
theorem RelKs.keep (k : Keep H H') {kvs : List (Key × P)} {ws : List (Key × V)} (h : RelKs K H kvs ws) : RelKs K H' kvs ws :=
  Paired.mapP h fun _ _ r => ⟨r.1, r.2.keep k⟩
theorem CellOk.keep (k : Keep H H') {a : Addr} {c : Cell} (e : H' a = H a) (h : CellOk K H a c) : CellOk K H' a c := by
  cases c with
  | lst ds => obtain ⟨xs, h1, h2⟩ := h; exact ⟨xs, e.trans h1, h2.keep k⟩
  | dct kvs => obtain ⟨xs, h1, h2⟩ := h; exact ⟨xs, e.trans h1, h2.keep k⟩
theorem CellOk.some {a : Addr} {c : Cell} (h : CellOk K H a c) : ∃ o, H a = some o ∧ ¬ Still o := by
  cases c with
  | lst ds => obtain ⟨xs, h1, _⟩ := h; exact ⟨_, h1, fun z => z⟩
  | dct kvs => obtain ⟨xs, h1, _⟩ := h; exact ⟨_, h1, fun z => z⟩
theorem getE_lt {α : Type} {xs : List α} {i : Nat} {x : α} (h : xs[i]? = some x) : i < xs.length := (List.getElem?_eq_some_iff.mp h).1
theorem Sim.ne {p : Addr} (h : Sim K ρ S H) (hp : H p = none) {i : Nat} (hi : i < S.length) : ρ i ≠ p := fun e => by
  obtain ⟨o, q, _⟩ := (h.cell i S[i] (List.getElem?_eq_getElem hi)).some
  rw [e, hp] at q; cases q
/-- the new location's map -/
def put (ρ : Nat → Addr) (n : Nat) (p : Addr) : Nat → Addr := fun i => if i = n then p else ρ i
theorem put_same {n : Nat} {p : Addr} : put ρ n p n = p := by unfold put; rw [if_pos rfl]
theorem put_ne {n i : Nat} {p : Addr} (h : i ≠ n) : put ρ n p i = ρ i := by unfold put; rw [if_neg h]
/-- a new cell -/
theorem Sim.new {p : Addr} {o : HO} {c : Cell} (h : Sim K ρ S H) (hp : H p = none) (hc : CellOk K (upd H p o) p c) :
    Sim K (put ρ S.length p) (S ++ [c]) (upd H p o) ∧ Ext ρ S H (put ρ S.length p) (S ++ [c]) (upd H p o) := by
  have k : Keep H (upd H p o) := Keep.fresh o hp
  refine ⟨⟨fun i d e => ?_, fun i j hi hj e => ?_⟩, ⟨by simp, fun i hi => put_ne (Nat.ne_of_lt hi), k⟩⟩
  · by_cases hi : i < S.length
    · rw [List.getElem?_append_left hi] at e
      rw [put_ne (Nat.ne_of_lt hi)]
      exact (h.cell i d e).keep k (upd_ne (h.ne hp hi))
    · have hi2 := getE_lt e
      simp at hi2
      have : i = S.length := by omega
      subst this
      rw [List.getElem?_append_right (Nat.le_refl _)] at e
      simp at e; subst e
      rw [put_same]; exact hc
  · simp at hi hj
    by_cases a : i = S.length
    · by_cases b : j = S.length
      · rw [a, b]
      · rw [a, put_same, put_ne b] at e
        exact absurd e.symm (h.ne hp (by omega))
    · by_cases b : j = S.length
      · rw [b, put_same, put_ne a] at e
        exact absurd e (h.ne hp (by omega))
      · rw [put_ne a, put_ne b] at e
        exact h.inj i j (by omega) (by omega) e
/-- a cell written -/
theorem Sim.write {i : Nat} {o : HO} {c d : Cell} (h : Sim K ρ S H) (hi : S[i]? = some d) (hc : CellOk K (upd H (ρ i) o) (ρ i) c) :
    Sim K ρ (S.set i c) (upd H (ρ i) o) ∧ Ext ρ S H ρ (S.set i c) (upd H (ρ i) o) := by
  have lt := getE_lt hi
  obtain ⟨u, e1, ns⟩ := (h.cell i d hi).some
  have k : Keep H (upd H (ρ i) o) := Keep.write o e1 ns
  refine ⟨⟨fun j x e => ?_, fun a b ha hb e => ?_⟩, ⟨by simp, fun _ _ => rfl, k⟩⟩
  · by_cases hj : j = i
    · subst hj
      rw [List.getElem?_set_self lt] at e
      cases e; exact hc
    · rw [List.getElem?_set_ne (Ne.symm hj)] at e
      exact (h.cell j x e).keep k (upd_ne fun q => hj (h.inj j i (getE_lt e) lt q))
  · simp at ha hb
    exact h.inj a b ha hb e
/-- another object is laid (a tuple) -/
theorem Sim.laid {p : Addr} {o : HO} (h : Sim K ρ S H) (hp : H p = none) : Sim K ρ S (upd H p o) ∧ Ext ρ S H ρ S (upd H p o) := by
  have k : Keep H (upd H p o) := Keep.fresh o hp
  exact ⟨⟨fun i c e => (h.cell i c e).keep k (upd_ne (h.ne hp (getE_lt e))), h.inj⟩, ⟨Nat.le_refl _, fun _ _ => rfl, k⟩⟩
end

/-! ### the frame -/
structure EnvOk [Xc] (K : PySem.W.Frag) (H : Hp) (ρ : Nat → Addr) (L : Nat) (en : En) (σ : L2.St) : Prop where
  len : en.length = σ.length
  get : ∀ (i : Nat) (v : PV), en[i]? = some (some v) → ∃ x : V, σ[i]? = some (some x) ∧ RelQ K H ρ L v x
section
variable [Xc] {K : PySem.W.Frag} {ρ ρ' : Nat → Addr} {S S' : Sto} {H H' : Hp} {en : En} {σ : L2.St}
theorem EnvOk.ext (h : EnvOk K H ρ S.length en σ) (e : Ext ρ S H ρ' S' H') : EnvOk K H' ρ' S'.length en σ :=
  ⟨h.len, fun i v g => let ⟨x, a, b⟩ := h.get i v g; ⟨x, a, b.ext e⟩⟩
theorem EnvOk.set {L : Nat} {i : Nat} {v : PV} {x : V} (h : EnvOk K H ρ L en σ) (r : RelQ K H ρ L v x) : EnvOk K H ρ L (en.set i (some v)) (σ.set i (some x)) := by
  refine ⟨by simp [h.len], fun j u g => ?_⟩
  by_cases hj : j = i
  · subst hj
    have lt : j < en.length := by have := getE_lt g; simpa using this
    rw [List.getElem?_set_self lt] at g
    cases g
    exact ⟨x, List.getElem?_set_self (by rw [← h.len]; exact lt), r⟩
  · rw [List.getElem?_set_ne (Ne.symm hj)] at g ⊢
    exact h.get j u g
theorem EnvOk.forget {L : Nat} {i : Nat} (h : EnvOk K H ρ L en σ) : EnvOk K H ρ L (en.set i none) (σ.set i none) := by
  refine ⟨by simp [h.len], fun j u g => ?_⟩
  by_cases hj : j = i
  · subst hj
    have lt : j < en.length := by have := getE_lt g; simpa using this
    rw [List.getElem?_set_self lt] at g
    cases g
  · rw [List.getElem?_set_ne (Ne.symm hj)] at g ⊢
    exact h.get j u g
end

/-! ### results -/
inductive R (α : Type) where
  | ok (a : α) (S : Sto)
  | ex (c : Nat) (S : Sto)
  | no
def R.bind {α β : Type} (r : R α) (f : α → Sto → R β) : R β := match r with
  | .ok a S => f a S
  | .ex c S => .ex c S
  | .no => .no
section
variable {K : PySem.W.Frag} {W : WX} {CV : Nat → Value} {σ : L2.St}
/-- what is wanted behind a result -/
def G {α : Type} (K : PySem.W.Frag) (W : WX) (CV : Nat → Value) (σ : L2.St) (ρ : Nat → Addr) (S : Sto) (H : Hp) (r : R α) (Q : α → (Nat → Addr) → Sto → Hp → Prop) : Prop := match r with
  | .ok a S' => ∀ ρ' H', Ext ρ S H ρ' S' H' → Sim K ρ' S' H' → Q a ρ' S' H'
  | .ex c S' => ∀ ρ' H', Ext ρ S H ρ' S' H' → Sim K ρ' S' H' → W (CV c) none σ H'
  | .no => False
theorem G.imp {α : Type} {ρ : Nat → Addr} {S : Sto} {H : Hp} {r : R α} {Q Q' : α → (Nat → Addr) → Sto → Hp → Prop} (h : G K W CV σ ρ S H r Q)
    (f : ∀ a ρ' S' H', Ext ρ S H ρ' S' H' → Sim K ρ' S' H' → Q a ρ' S' H' → Q' a ρ' S' H') : G K W CV σ ρ S H r Q' := by
  cases r with
  | ok a S' => exact fun ρ' H' e s => f a ρ' S' H' e s (h ρ' H' e s)
  | ex c S' => exact h
  | no => exact h
theorem G.bind {α β : Type} {ρ : Nat → Addr} {S : Sto} {H : Hp} {r : R α} {f : α → Sto → R β} {Q : β → (Nat → Addr) → Sto → Hp → Prop} (h : G K W CV σ ρ S H (r.bind f) Q) :
    G K W CV σ ρ S H r fun a ρ' S' H' => G K W CV σ ρ' S' H' (f a S') Q := by
  cases r with
  | ok a S' =>
    intro ρ' H' e s
    show G K W CV σ ρ' S' H' (f a S') Q
    have h : G K W CV σ ρ S H (f a S') Q := h
    cases q : f a S' with
    | ok b S2 => rw [q] at h; exact fun ρ2 H2 e2 s2 => h ρ2 H2 (e.trans e2) s2
    | ex c S2 => rw [q] at h; exact fun ρ2 H2 e2 s2 => h ρ2 H2 (e.trans e2) s2
    | no => rw [q] at h; exact h
  | ex c S' => exact h
  | no => exact h
/-- from another point -/
theorem G.from {α : Type} {ρ ρ1 : Nat → Addr} {S S1 : Sto} {H H1 : Hp} {r : R α} {Q : α → (Nat → Addr) → Sto → Hp → Prop} (h : G K W CV σ ρ S H r Q) (e : Ext ρ S H ρ1 S1 H1) : G K W CV σ ρ1 S1 H1 r Q := by
  cases r with
  | ok a S' => exact fun ρ' H' e' s => h ρ' H' (e.trans e') s
  | ex c S' => exact fun ρ' H' e' s => h ρ' H' (e.trans e') s
  | no => exact h
variable [Xc]
abbrev QV (K : PySem.W.Frag) (Q : VK) : PV → (Nat → Addr) → Sto → Hp → Prop := fun v ρ S H => ∀ x, RelQ K H ρ S.length v x → Q x H
/-- an expression's reading: by its evaluation -/
def tE (K : PySem.W.Frag) (W : WX) (CV : Nat → Value) (ev : En → Sto → R PV) : TE := fun σ H Q => ∃ en ρ S, EnvOk K H ρ S.length en σ ∧ Sim K ρ S H ∧ G K W CV σ ρ S H (ev en S) (QV K Q)
def tT (K : PySem.W.Frag) (W : WX) (CV : Nat → Value) (ev : En → Sto → R Bool) : TT := fun σ H Q => ∃ en ρ S, EnvOk K H ρ S.length en σ ∧ Sim K ρ S H ∧ G K W CV σ ρ S H (ev en S) (fun b _ _ H' => Q b H')
def tA (K : PySem.W.Frag) (W : WX) (CV : Nat → Value) (ev : En → Sto → R (List PV)) : TA := fun σ H Q => ∃ en ρ S, EnvOk K H ρ S.length en σ ∧ Sim K ρ S H ∧ G K W CV σ ρ S H (ev en S) (fun vs ρ' S' H' => ∀ xs, RelQs K H' ρ' S'.length vs xs → Q xs H')
end
end Kp

set_option Elab.async false
set_option linter.all false
set_option maxRecDepth 100000
set_option maxHeartbeats 4000000
set_option autoImplicit false
/-! K2: a small language of the text's own forms, and its evaluator. -/
namespace Kp
open PySem PySem.Spec PyProof.Rows L2

inductive Bop | add | sub | mul | fdiv | mod | pow
inductive Cop | eq | ne | lt | le | gt | ge | is | isn | inn | nin
inductive Bi | len | tup | lst | int | str | sum | all | max1 | maxd | max2 | min2 | sorted | dict
inductive Mt | append | get2 | pop0 | index | count | reverse | insert | join
  deriving DecidableEq
inductive Ty | tup | lst | str | int | bool
mutual
inductive Ex
  | v (i : Nat) | c (k : P)
  | bin (o : Bop) (a b : Ex) | cmp (o : Cop) (a b : Ex) | neg (a : Ex)
  | and' (a b : Ex) | or' (a b : Ex) | not' (a : Ex) | ife (t a b : Ex)
  | tup (es : Exs) | lst (es : Exs) | dct (ks : List Str) (es : Exs)
  | ix (a i : Ex) | sl (a : Ex) (lo hi : Oe) | rev (a : Ex)
  | call (f : Nat) (es : Exs) | bi (b : Bi) (es : Exs) | mth (m : Mt) (o : Ex) (es : Exs) | isi (a : Ex) (t : Ty) | isx (a : Ex) (ys ns : List Nat)
  | comp (i : Nat) (it : Ix) (tst : Oe) (e : Ex)
inductive Exs
  | nil | cons (e : Ex) (es : Exs)
inductive Oe
  | non | one (e : Ex)
inductive Ix
  | val (e : Ex) | rng1 (a : Ex) | rng2 (a b : Ex) | zip (a b : Ex) | revR (a : Ex) | revL (a : Ex)
end
inductive Tg
  | nm (i : Nat) | tp (is : List Nat)
mutual
inductive Sm
  | asg (t : Tg) (e : Ex) | setI (o i e : Ex) | ex (e : Ex) | ret (e : Ex) | retN
  | ift (t : Ex) (a b : Sms) | for' (t : Tg) (it : Ix) (b : Sms) | while (t : Ex) (b : Sms)
  | raise (c : Nat) | cont | pass
  | tryM (b : Sms) (h : Hs) | tryA (b : Sms) (cs ms : List Nat) (i : Nat) (h : Sms)
inductive Sms
  | nil | cons (s : Sm) (r : Sms)
inductive Hs
  | nil | cons (cs ms : List Nat) (b : Sms) (r : Hs)
end

/-! ### operations -/
def ixP {α : Type} (xs : List α) (i : Int) : Option α := if 0 ≤ i then xs[i.toNat]? else if 0 ≤ i + xs.length then xs[(i + xs.length).toNat]? else none
def cutP {α : Type} (xs : List α) (lo hi : Option Int) : List α := (xs.drop (HT.sIx xs.length 0 lo)).take (HT.sIx xs.length xs.length hi - HT.sIx xs.length 0 lo)
def keyP : P → Option Key
  | .int i => some (.inl i)
  | .str s => some (.inr s)
  | _ => none
def pKey : Key → P
  | .inl i => .int i
  | .inr s => .str s
def luK (kvs : List (Key × P)) (k : Key) : Option P := (kvs.find? fun kv => decide (kv.1 = k)).map (·.2)
def puK (kvs : List (Key × P)) (k : Key) (v : P) : List (Key × P) :=
  if (kvs.any fun kv => decide (kv.1 = k)) = true then kvs.map (fun kv => if kv.1 = k then (kv.1, v) else kv) else kvs ++ [(k, v)]
def intsP : List P → Option (List Int)
  | [] => some []
  | .int i :: r => (intsP r).map (i :: ·)
  | _ :: _ => none
def blsP : List P → Option (List Bool)
  | [] => some []
  | .bool i :: r => (blsP r).map (i :: ·)
  | _ :: _ => none
def strsP : List P → Option (List Str)
  | [] => some []
  | .str i :: r => (strsP r).map (i :: ·)
  | _ :: _ => none
def flatP : P → Bool
  | .none => true
  | .bool _ => true
  | .int _ => true
  | .str _ => true
  | _ => false
/-- the text of a list's items, a tuple's -/
def seqV (S : Sto) : PV → Option (List P)
  | .loc i => match S[i]? with
    | some (.lst xs) => some xs
    | _ => none
  | .p (.tuple xs) => some xs
  | .p (.list xs) => some xs
  | _ => none
def datV (S : Sto) : PV → Option P
  | .p x => some x
  | .loc i => match S[i]? with
    | some (.lst xs) => some (.list xs)
    | _ => none
  | .mt _ => none
  | .exc _ => none
/-- new cells -/
def newC (xs : List P) (S : Sto) : R PV := .ok (.loc S.length) (S ++ [.lst xs])
def newL (xs : List P) (S : Sto) : R PV := if xs.length ≤ 1000000 then .ok (.loc S.length) (S ++ [.lst xs]) else .no
def okP (x : P) (S : Sto) : R PV := .ok (.p x) S
/-- dicts compared -/
def dcvV (S : Sto) : PV → Option (List (Key × P))
  | .loc i => match S[i]? with
    | some (.dct kvs) => some kvs
    | _ => none
  | _ => none
def dqP (a b : List (Key × P)) : Bool := (a.length == b.length) && a.all fun p => match luK b p.1 with
  | some y => PyData.eqv p.2 y
  | none => false
def dshB (a : List (Key × P)) : Bool := a.all fun p => p.2.canLay0 && decide (p.2.depth ≤ 60)
def dqV (x y : PV) (S : Sto) : R Bool := match dcvV S x, dcvV S y with
  | some a, some b => if (dshB a && dshB b) = true then .ok (dqP a b) S else .no
  | _, _ => .no
def eqV' (x y : PV) (S : Sto) : R Bool := match x, y with
  | .p (.int i), .p (.int j) => .ok (decide (i = j)) S
  | .p (.str i), .p (.str j) => .ok (decide (i = j)) S
  | x, y => match datV S x, datV S y with
    | some a, some b => if (SeqAt.shaped a && SeqAt.shaped b) = true then .ok (PyData.eqv a b) S else .no
    | _, _ => dqV x y S
def allP : List PV → Option (List P)
  | [] => some []
  | .p x :: r => (allP r).map (x :: ·)
  | _ :: _ => none
def tupV (vs : List PV) (S : Sto) : R PV := if vs.length ≤ 1000000 then (match allP vs with
  | some xs => .ok (.p (.tuple xs)) S
  | none => .ok (.mt vs) S) else .no
def CMulB (i j : Int) : Bool := (decide (-(2 ^ 64) < i) && decide (i < 2 ^ 64)) || (decide (-(2 ^ 64) < j) && decide (j < 2 ^ 64))
def binV (o : Bop) (x y : PV) (S : Sto) : R PV := match o, x, y with
  | .add, .p (.int i), .p (.int j) => okP (.int (i + j)) S
  | .sub, .p (.int i), .p (.int j) => okP (.int (i - j)) S
  | .mul, .p (.int i), .p (.int j) => if CMulB i j = true then okP (.int (i * j)) S else .no
  | .fdiv, .p (.int i), .p (.int j) => if 0 < j ∧ j < 1073741824 then okP (.int (i / j)) S else .no
  | .mod, .p (.int i), .p (.int j) => if 0 < j then okP (.int (i % j)) S else .no
  | .pow, .p (.int i), .p (.int j) => if 0 ≤ j ∧ j ≤ 1000000 ∧ i.natAbs < 2 ^ 64 then okP (.int (i ^ j.toNat)) S else .no
  | .add, .p (.str a), .p (.str b) => if a.length + b.length ≤ 1000000 then okP (.str (a ++ b)) S else .no
  | .add, .p (.tuple a), .p (.tuple b) => if a.length + b.length ≤ 1000000 then okP (.tuple (a ++ b)) S else .no
  | .add, .loc i, .loc j => match S[i]?, S[j]? with
    | some (.lst a), some (.lst b) => newL (a ++ b) S
    | _, _ => .no
  | .mul, .loc i, .p (.int k) => match S[i]? with
    | some (.lst a) => if -(2 ^ 63) ≤ k ∧ k < 2 ^ 63 ∧ a.length * k.toNat ≤ 1000000 then newL (List.replicate k.toNat a).flatten S else .no
    | _ => .no
  | _, _, _ => .no
/-- x in y -/
def inV' (x y : PV) (S : Sto) : R Bool := match x, y with
  | .p (.str a), .p (.str b) => if a.length = 1 then .ok (decide (a.cps.getD 0 0 ∈ b.cps.toList)) S else .no
  | .p a, .loc i => (match S[i]? with
    | some (.dct kvs) => (match keyP a with
      | some k => .ok (luK kvs k).isSome S
      | none => .no)
    | some (.lst xs) => if (flatP a && xs.all flatP) = true then .ok (xs.any fun y => PyData.eqv y a) S else .no
    | _ => .no)
  | .p a, .p (.tuple xs) => if (flatP a && xs.all flatP) = true then .ok (xs.any fun y => PyData.eqv y a) S else .no
  | _, _ => .no
def nonP : P → Bool
  | .none => true
  | _ => false
def cmpV (o : Cop) (x y : PV) (S : Sto) : R Bool := match o with
  | .eq => eqV' x y S
  | .ne => (eqV' x y S).bind fun b S => .ok (!b) S
  | .lt => match x, y with
    | .p (.int i), .p (.int j) => .ok (decide (i < j)) S
    | _, _ => .no
  | .le => match x, y with
    | .p (.int i), .p (.int j) => .ok (decide (i ≤ j)) S
    | _, _ => .no
  | .gt => match x, y with
    | .p (.int i), .p (.int j) => .ok (decide (j < i)) S
    | _, _ => .no
  | .ge => match x, y with
    | .p (.int i), .p (.int j) => .ok (decide (j ≤ i)) S
    | _, _ => .no
  | .is => match x, y with
    | .p a, .p .none => .ok (nonP a) S
    | .loc _, .p .none => .ok false S
    | .mt _, .p .none => .ok false S
    | .p (.bool a), .p (.bool b) => .ok (decide (a = b)) S
    | _, _ => .no
  | .isn => match x, y with
    | .p a, .p .none => .ok (!nonP a) S
    | .loc _, .p .none => .ok true S
    | .mt _, .p .none => .ok true S
    | .p (.bool a), .p (.bool b) => .ok (!decide (a = b)) S
    | _, _ => .no
  | .inn => inV' x y S
  | .nin => (inV' x y S).bind fun b S => .ok (!b) S
def truV (x : PV) (S : Sto) : R Bool := match x with
  | .p (.bool b) => .ok b S
  | .p .none => .ok false S
  | .p (.int i) => .ok (i != 0) S
  | .p (.str s) => if s.length ≤ 1000000 then .ok (s.length != 0) S else .no
  | .p (.tuple xs) => .ok (!xs.isEmpty) S
  | .loc i => match S[i]? with
    | some (.lst xs) => .ok (!xs.isEmpty) S
    | some (.dct xs) => .ok (!xs.isEmpty) S
    | none => .no
  | _ => .no
def ixV (x i : PV) (S : Sto) : R PV := match x, i with
  | .p (.tuple xs), .p (.int i) => (match ixP xs i with
    | some v => okP v S
    | none => .no)
  | .p (.list xs), .p (.int i) => (match ixP xs i with
    | some v => okP v S
    | none => .no)
  | .mt xs, .p (.int i) => (match ixP xs i with
    | some v => .ok v S
    | none => .no)
  | .p (.str s), .p (.int i) => if s.length ≤ 1000000 then (match ixP s.cps.toList i with
    | some c => okP (.str ⟨#[c]⟩) S
    | none => .no) else .no
  | .loc l, .p k => (match S[l]? with
    | some (.lst xs) => (match k with
      | .int i => (match ixP xs i with
        | some v => okP v S
        | none => .no)
      | _ => .no)
    | some (.dct kvs) => (match keyP k with
      | some k => (match luK kvs k with
        | some v => okP v S
        | none => .no)
      | none => .no)
    | none => .no)
  | _, _ => .no
def slV (x : PV) (lo hi : Option Int) (S : Sto) : R PV := match x with
  | .p (.tuple xs) => okP (.tuple (cutP xs lo hi)) S
  | .p (.list xs) => newC (cutP xs lo hi) S
  | .p (.str s) => if s.length ≤ 1000000 then okP (.str ⟨(cutP s.cps.toList lo hi).toArray⟩) S else .no
  | .loc l => (match S[l]? with
    | some (.lst xs) => newC (cutP xs lo hi) S
    | _ => .no)
  | _ => .no
def revV (x : PV) (S : Sto) : R PV := match x with
  | .loc l => (match S[l]? with
    | some (.lst xs) => newC xs.reverse S
    | _ => .no)
  | .p (.str s) => if s.length ≤ 1000000 then okP (.str ⟨s.cps.toList.reverse.toArray⟩) S else .no
  | _ => .no
def maxI : Int → List Int → Int
  | m, [] => m
  | m, x :: r => maxI (if x > m then x else m) r
def insI (x : Int) : List Int → List Int
  | [] => [x]
  | y :: r => if x ≤ y then x :: y :: r else y :: insI x r
def sortI : List Int → List Int
  | [] => []
  | x :: r => insI x (sortI r)
def biV (b : Bi) (vs : List PV) (S : Sto) : R PV := match b, vs with
  | .len, [.loc i] => (match S[i]? with
    | some (.lst xs) => okP (.int xs.length) S
    | some (.dct xs) => okP (.int xs.length) S
    | none => .no)
  | .len, [.p (.tuple xs)] => okP (.int xs.length) S
  | .len, [.p (.list xs)] => okP (.int xs.length) S
  | .len, [.mt xs] => okP (.int xs.length) S
  | .len, [.p (.str s)] => if s.length ≤ 1000000 then okP (.int s.length) S else .no
  | .tup, [.p (.tuple xs)] => okP (.tuple xs) S
  | .tup, [.loc i] => (match S[i]? with
    | some (.lst xs) => okP (.tuple xs) S
    | _ => .no)
  | .lst, [.p (.tuple xs)] => newC xs S
  | .lst, [.p (.list xs)] => newC xs S
  | .lst, [.loc i] => (match S[i]? with
    | some (.lst xs) => newC xs S
    | some (.dct kvs) => newC (kvs.map fun kv => pKey kv.1) S
    | none => .no)
  | .int, [.p (.int i)] => okP (.int i) S
  | .int, [.p (.bool b)] => okP (.int (if b then 1 else 0)) S
  | .str, [.p (.int i)] => if i.natAbs.log2 < 1920 then okP (.str (toString i)) S else .no
  | .sum, [.loc i] => (match S[i]? with
    | some (.lst xs) => (match intsP xs with
      | some ns => okP (.int ns.sum) S
      | none => .no)
    | _ => .no)
  | .all, [.loc i] => (match S[i]? with
    | some (.lst xs) => (match blsP xs with
      | some ns => okP (.bool (ns.all id)) S
      | none => .no)
    | _ => .no)
  | .max1, [.loc i] => (match S[i]? with
    | some (.lst xs) => (match intsP xs with
      | some (n :: ns) => okP (.int (maxI n ns)) S
      | _ => .no)
    | _ => .no)
  | .maxd, [.loc i, .p d] => (match S[i]? with
    | some (.lst xs) => (match intsP xs with
      | some (n :: ns) => okP (.int (maxI n ns)) S
      | some [] => okP d S
      | _ => .no)
    | _ => .no)
  | .max2, [.p (.int i), .p (.int j)] => okP (.int (if j > i then j else i)) S
  | .min2, [.p (.int i), .p (.int j)] => okP (.int (if j < i then j else i)) S
  | .sorted, [.loc i] => (match S[i]? with
    | some (.lst xs) => (match intsP xs with
      | some ns => newC ((sortI ns).map .int) S
      | _ => .no)
    | _ => .no)
  | .dict, [.loc i] => (match S[i]? with
    | some (.dct kvs) => .ok (.loc S.length) (S ++ [.dct kvs])
    | _ => .no)
  | _, _ => .no
def mtV (m : Mt) (o : PV) (vs : List PV) (S : Sto) : R PV := match m, o, vs with
  | .append, .loc i, [.p x] => (match S[i]? with
    | some (.lst xs) => if xs.length < 1000000 then .ok (.p .none) (S.set i (.lst (xs ++ [x]))) else .no
    | _ => .no)
  | .pop0, .loc i, [] => (match S[i]? with
    | some (.lst xs) => (match xs[xs.length - 1]? with
      | some x => .ok (.p x) (S.set i (.lst xs.dropLast))
      | none => .no)
    | _ => .no)
  | .reverse, .loc i, [] => (match S[i]? with
    | some (.lst xs) => .ok (.p .none) (S.set i (.lst xs.reverse))
    | _ => .no)
  | .get2, .loc i, [.p k, .p d] => (match S[i]? with
    | some (.dct kvs) => (match keyP k with
      | some k => okP ((luK kvs k).getD d) S
      | none => .no)
    | _ => .no)
  | .join, .p (.str a), [.loc i] => (match S[i]? with
    | some (.lst xs) => (match strsP xs with
      | some ys => if (ys.map (·.length)).sum + ys.length * a.length ≤ 16777216 then okP (.str (Txt.join a ys)) S else .no
      | none => .no)
    | _ => .no)
  | .index, .p (.str a), [.p (.str b)] => (match Builtin.Str.occurrences a b 0 a.length 1 with
    | i :: _ => okP (.int (i : Nat)) S
    | [] => .no)
  | .index, .loc i, [.p x] => (match S[i]? with
    | some (.lst xs) => if (flatP x && xs.all flatP) = true then (match xs.findIdx? fun y => PyData.eqv y x with
      | some j => okP (.int (j : Nat)) S
      | none => .no) else .no
    | _ => .no)
  | .count, .loc i, [.p (.bool b)] => (match S[i]? with
    | some (.lst xs) => (match blsP xs with
      | some bs => okP (.int (bs.count b : Nat)) S
      | none => .no)
    | _ => .no)
  | .insert, .loc i, [.p (.int n), .p x] => (match S[i]? with
    | some (.lst xs) => if xs.length < 1000000 ∧ 0 ≤ n ∧ n < 2 ^ 62 then .ok (.p .none) (S.set i (.lst (xs.take n.toNat ++ [x] ++ xs.drop n.toNat))) else .no
    | _ => .no)
  | _, _, _ => .no
def isStr : PV → Bool
  | .p (.str _) => true
  | _ => false
def isLst : PV → Sto → Bool
  | .loc i, S => (match S[i]? with
    | some (.lst _) => true
    | _ => false)
  | _, _ => false
def isDct : PV → Sto → Bool
  | .loc i, S => (match S[i]? with
    | some (.dct _) => true
    | _ => false)
  | _, _ => false
def mtTy (m : Mt) (x : PV) (S : Sto) : Bool := match m with
  | .get2 => isDct x S
  | .join => isStr x
  | .index => isStr x || isLst x S
  | _ => isLst x S
def isiV (t : Ty) (x : PV) (S : Sto) : R Bool := match t, x with
  | .tup, .p (.tuple _) => .ok true S
  | .tup, .mt _ => .ok true S
  | .lst, .loc i => (match S[i]? with
    | some (.lst _) => .ok true S
    | some (.dct _) => .ok false S
    | none => .no)
  | .lst, .p (.list _) => .ok true S
  | .str, .p (.str _) => .ok true S
  | .int, .p (.int _) => .ok true S
  | .int, .p (.bool _) => .ok true S
  | .bool, .p (.bool _) => .ok true S
  | _, .p _ => .ok false S
  | _, .mt _ => .ok false S
  | _, .exc _ => .no
  | _, .loc i => (match S[i]? with
    | some _ => .ok false S
    | none => .no)
/-- an exception's class asked -/
def isxV (ys ns : List Nat) (x : PV) (S : Sto) : R Bool := match x with
  | .exc c => if ys.contains c = true then .ok true S else if ns.contains c = true then .ok false S else .no
  | _ => .no
/-! o[i] = v -/
def setV (o i v : PV) (S : Sto) : R Unit := match o, i, v with
  | .loc l, .p k, .p x => (match S[l]? with
    | some (.lst xs) => (match k with
      | .int i => (match ixN xs.length i with
        | some j => .ok () (S.set l (.lst (xs.set j x)))
        | none => .no)
      | _ => .no)
    | some (.dct kvs) => (match keyP k with
      | some k => if kvs.length < 1000000 then .ok () (S.set l (.dct (puK kvs k x))) else .no
      | none => .no)
    | none => .no)
  | _, _, _ => .no
/-- a, b = v -/
def tgV (t : Tg) (v : PV) (en : En) : Option En := match t with
  | .nm i => some (en.set i (some v))
  | .tp is => match v with
    | .p (.tuple xs) => if xs.length = is.length then some ((is.zip xs).foldl (fun e q => e.set q.1 (some (.p q.2))) en) else none
    | .mt xs => if xs.length = is.length then some ((is.zip xs).foldl (fun e q => e.set q.1 (some q.2)) en) else none
    | _ => none

/-! ### what is walked: items, and the lists that must stand meanwhile -/
abbrev Wt := List (Nat × List P)
def wtOk : Wt → Sto → Bool
  | [], _ => true
  | (i, xs) :: r, S => (match S[i]? with
    | some (.lst ys) => decide (ys.length = xs.length) && (ys.zip xs).all (fun q => pdB q.1 q.2)
    | _ => false) && wtOk r S
abbrev Its' := List PV × Wt
def valI (x : PV) (S : Sto) : R Its' := match x with
  | .loc i => (match S[i]? with
    | some (.lst xs) => .ok (xs.map .p, [(i, xs)]) S
    | _ => .no)
  | .p (.tuple xs) => .ok (xs.map .p, []) S
  | .p (.list xs) => .ok (xs.map .p, []) S
  | .p (.str s) => .ok (s.cps.toList.map fun c => .p (.str ⟨#[c]⟩), []) S
  | _ => .no
def rngI (a b : Int) (S : Sto) : R Its' := if -(2 ^ 62) ≤ a ∧ a < 2 ^ 62 ∧ -(2 ^ 62) ≤ b ∧ b < 2 ^ 62 then .ok ((List.range (b - a).toNat).map fun (k : Nat) => .p (.int (a + k)), []) S else .no
def revI (x : PV) (S : Sto) : R Its' := match x with
  | .loc i => (match S[i]? with
    | some (.lst xs) => .ok (xs.reverse.map .p, [(i, xs)]) S
    | _ => .no)
  | .p (.tuple xs) => .ok (xs.reverse.map .p, []) S
  | _ => .no
def zipI (x y : PV) (S : Sto) : R Its' := match x, y with
  | .loc i, .loc j => (match S[i]?, S[j]? with
    | some (.lst xs), some (.lst ys) => if xs.length = ys.length then .ok ((xs.zip ys).map fun q => .p (.tuple [q.1, q.2]), [(i, xs), (j, ys)]) S else .no
    | _, _ => .no)
  | _, _ => .no
def intR (x : PV) (S : Sto) (f : Int → R Its') : R Its' := match x with
  | .p (.int i) => f i
  | _ => .no

/-! ### evaluation -/
abbrev Cl := Nat → List PV → Sto → R PV
def compL (el : En → Sto → R PV) (tst : En → Sto → R Bool) (i : Nat) (w : Wt) (D : Nat) : List PV → En → Sto → R Unit
  | [], _, S => if wtOk w S = true then .ok () S else .no
  | x :: r, en, S => if wtOk w S = true then
      match tst (en.set i (some x)) S with
      | .ok true S1 => (match el (en.set i (some x)) S1 with
        | .ok (.p y) S2 => (match S2[D]? with
          | some (.lst acc) => if acc.length < 1000000 then compL el tst i w D r en (S2.set D (.lst (acc ++ [y]))) else .no
          | _ => .no)
        | _ => .no)
      | .ok false S1 => compL el tst i w D r en S1
      | _ => .no
    else .no
def dctV : List Str → List PV → List (Key × P) → Option (List (Key × P))
  | [], [], acc => some acc
  | k :: ks, .p x :: vs, acc => dctV ks vs (puK acc (.inr k) x)
  | _, _, _ => none
mutual
def ev (cl : Cl) : Ex → En → Sto → R PV
  | .v i, en, S => match en[i]? with
    | some (some x) => .ok x S
    | _ => .no
  | .c k, _, S => .ok (.p k) S
  | .bin o a b, en, S => (ev cl a en S).bind fun x S => (ev cl b en S).bind fun y S => binV o x y S
  | .cmp o a b, en, S => (ev cl a en S).bind fun x S => (ev cl b en S).bind fun y S => (cmpV o x y S).bind fun b S => okP (.bool b) S
  | .neg a, en, S => (ev cl a en S).bind fun x S => match x with
    | .p (.int i) => okP (.int (-i)) S
    | _ => .no
  | .and' a b, en, S => (ev cl a en S).bind fun x S => match x with
    | .p (.bool c) => if c = true then ev cl b en S else okP (.bool false) S
    | _ => .no
  | .or' a b, en, S => (ev cl a en S).bind fun x S => match x with
    | .p (.bool c) => if c = true then okP (.bool true) S else ev cl b en S
    | _ => .no
  | .not' a, en, S => (ev cl a en S).bind fun x S => (truV x S).bind fun c S => okP (.bool (!c)) S
  | .ife t a b, en, S => (evT cl t en S).bind fun c S => if c = true then ev cl a en S else ev cl b en S
  | .tup es, en, S => (evs cl es en S).bind fun vs S => tupV vs S
  | .lst es, en, S => (evs cl es en S).bind fun vs S => match allP vs with
    | some xs => newL xs S
    | none => .no
  | .dct ks es, en, S => (evs cl es en (S ++ [.dct []])).bind fun vs S' => match S'[S.length]?, dctV ks vs [] with
    | some (.dct []), some kvs => .ok (.loc S.length) (S'.set S.length (.dct kvs))
    | _, _ => .no
  | .ix a i, en, S => (ev cl a en S).bind fun x S => (ev cl i en S).bind fun y S => ixV x y S
  | .sl a lo hi, en, S => (ev cl a en S).bind fun x S => (evO cl lo en S).bind fun l S => (evO cl hi en S).bind fun h S => slV x l h S
  | .rev a, en, S => (ev cl a en S).bind fun x S => revV x S
  | .call f es, en, S => (evs cl es en S).bind fun vs S => cl f vs S
  | .bi b es, en, S => (evs cl es en S).bind fun vs S => biV b vs S
  | .mth m o es, en, S => (ev cl o en S).bind fun x S => if mtTy m x S = true then (evs cl es en S).bind fun vs S => mtV m x vs S else .no
  | .isi a t, en, S => (ev cl a en S).bind fun x S => (isiV t x S).bind fun b S => okP (.bool b) S
  | .isx a ys ns, en, S => (ev cl a en S).bind fun x S => (isxV ys ns x S).bind fun b S => okP (.bool b) S
  | .comp i it tst e, en, S => (evI cl it en S).bind fun q S =>
    (compL (ev cl e) (evC cl tst) i q.2 S.length q.1 en (S ++ [.lst []])).bind fun _ S' => .ok (.loc S.length) S'
def evs (cl : Cl) : Exs → En → Sto → R (List PV)
  | .nil, _, S => .ok [] S
  | .cons e es, en, S => (ev cl e en S).bind fun x S => (evs cl es en S).bind fun xs S => .ok (x :: xs) S
def evO (cl : Cl) : Oe → En → Sto → R (Option Int)
  | .non, _, S => .ok none S
  | .one e, en, S => (ev cl e en S).bind fun x S => match x with
    | .p (.int i) => .ok (some i) S
    | _ => .no
def evC (cl : Cl) : Oe → En → Sto → R Bool
  | .non, _, S => .ok true S
  | .one e, en, S => evT cl e en S
def evI (cl : Cl) : Ix → En → Sto → R Its'
  | .val e, en, S => (ev cl e en S).bind fun x S => valI x S
  | .rng1 a, en, S => (ev cl a en S).bind fun x S => intR x S fun i => rngI 0 i S
  | .rng2 a b, en, S => (ev cl a en S).bind fun x S => (ev cl b en S).bind fun y S => intR x S fun i => intR y S fun j => rngI i j S
  | .zip a b, en, S => (ev cl a en S).bind fun x S => (ev cl b en S).bind fun y S => zipI x y S
  | .revR a, en, S => (ev cl a en S).bind fun x S => (intR x S fun i => rngI 0 i S).bind fun q S => .ok (q.1.reverse, []) S
  | .revL a, en, S => (ev cl a en S).bind fun x S => revI x S
def evT (cl : Cl) : Ex → En → Sto → R Bool
  | .cmp o a b, en, S => (ev cl a en S).bind fun x S => (ev cl b en S).bind fun y S => cmpV o x y S
  | .and' a b, en, S => (evT cl a en S).bind fun c S => if c = true then evT cl b en S else .ok false S
  | .or' a b, en, S => (evT cl a en S).bind fun c S => if c = true then .ok true S else evT cl b en S
  | .not' a, en, S => (evT cl a en S).bind fun c S => .ok (!c) S
  | .ife _ _ _, _, _ => .no
  | .v i, en, S => match en[i]? with
    | some (some x) => truV x S
    | _ => .no
  | .c k, _, S => truV (.p k) S
  | .bin o a b, en, S => (ev cl a en S).bind fun x S => (ev cl b en S).bind fun y S => (binV o x y S).bind truV
  | .ix a i, en, S => (ev cl a en S).bind fun x S => (ev cl i en S).bind fun y S => (ixV x y S).bind truV
  | .call f es, en, S => (evs cl es en S).bind fun vs S => (cl f vs S).bind truV
  | .bi b es, en, S => (evs cl es en S).bind fun vs S => (biV b vs S).bind truV
  | .mth m o es, en, S => (ev cl o en S).bind fun x S => if mtTy m x S = true then (evs cl es en S).bind fun vs S => (mtV m x vs S).bind truV else .no
  | .isi a t, en, S => (ev cl a en S).bind fun x S => (isiV t x S).bind fun b S => .ok b S
  | .isx a ys ns, en, S => (ev cl a en S).bind fun x S => (isxV ys ns x S).bind fun b S => .ok b S
  | _, _, _ => .no
end
inductive RS where
  | nx (en : En) (S : Sto) | rt (v : PV) (S : Sto) | ct (en : En) (S : Sto) | ex (c : Nat) (en : En) (S : Sto) | no
def R.st {α : Type} (r : R α) (en : En) (f : α → Sto → RS) : RS := match r with
  | .ok a S => f a S
  | .ex c S => .ex c en S
  | .no => .no
def forL (tg : Tg) (w : Wt) (b : En → Sto → RS) : List PV → En → Sto → RS
  | [], en, S => if wtOk w S = true then .nx en S else .no
  | x :: r, en, S => if wtOk w S = true then match tgV tg x en with
      | some en1 => (match b en1 S with
        | .nx en2 S2 => forL tg w b r en2 S2
        | .ct en2 S2 => forL tg w b r en2 S2
        | q => q)
      | none => .no
    else .no
def whileL (t : En → Sto → R Bool) (b : En → Sto → RS) : Nat → En → Sto → RS
  | 0, _, _ => .no
  | n + 1, en, S => (t en S).st en fun c S => if c = true then match b en S with
      | .nx en2 S2 => whileL t b n en2 S2
      | .ct en2 S2 => whileL t b n en2 S2
      | q => q
    else .nx en S
def WL : Nat := 1000000000
/-! an exception among values -/
mutual
def hasX : PV → Bool
  | .exc _ => true
  | .mt xs => hasXs xs
  | _ => false
def hasXs : List PV → Bool
  | [] => false
  | x :: xs => hasX x || hasXs xs
end
def hasXE (en : En) : Bool := en.any fun o => match o with
  | some v => hasX v
  | none => false
/-- a suite may not raise, nor hand on what is handled -/
def noEx (r : RS) : RS := match r with
  | .nx en S => if hasXE en = true then .no else .nx en S
  | .ct en S => if hasXE en = true then .no else .ct en S
  | .rt v S => if hasX v = true then .no else .rt v S
  | _ => .no
/-- behind the suite the name is gone -/
def goneR (i : Nat) (r : RS) : RS := match r with
  | .nx en S => if hasXE (en.set i none) = true then .no else .nx (en.set i none) S
  | .ct en S => if hasXE (en.set i none) = true then .no else .ct (en.set i none) S
  | .rt v S => if hasX v = true then .no else .rt v S
  | _ => .no
mutual
def exs (cl : Cl) : Sm → En → Sto → RS
  | .asg t e, en, S => (ev cl e en S).st en fun x S => match tgV t x en with
    | some en => .nx en S
    | none => .no
  | .setI o i e, en, S => (ev cl e en S).st en fun v S => (ev cl o en S).st en fun o S => (ev cl i en S).st en fun i S => (setV o i v S).st en fun _ S => .nx en S
  | .ex e, en, S => (ev cl e en S).st en fun _ S => .nx en S
  | .ret e, en, S => (ev cl e en S).st en fun x S => .rt x S
  | .retN, _, S => .rt (.p .none) S
  | .ift t a b, en, S => (evT cl t en S).st en fun c S => if c = true then exss cl a en S else exss cl b en S
  | .for' t it b, en, S => (evI cl it en S).st en fun q S => forL t q.2 (exss cl b) q.1 en S
  | .while t b, en, S => whileL (evT cl t) (exss cl b) WL en S
  | .raise c, en, S => .ex c en S
  | .cont, en, S => .ct en S
  | .pass, en, S => .nx en S
  | .tryM b h, en, S => match exss cl b en S with
    | .ex c en S => hds cl h c en S
    | q => q
  | .tryA b cs ms i h, en, S => match exss cl b en S with
    | .ex c en S => if cs.contains c = true then goneR i (exss cl h (en.set i (some (.exc c))) S) else if ms.contains c = true then .ex c en S else .no
    | q => q
def hds (cl : Cl) : Hs → Nat → En → Sto → RS
  | .nil, c, en, S => .ex c en S
  | .cons cs ms b r, c, en, S => if cs.contains c = true then noEx (exss cl b en S) else if ms.contains c = true then hds cl r c en S else .no
def exss (cl : Cl) : Sms → En → Sto → RS
  | .nil, en, S => .nx en S
  | .cons s r, en, S => match exs cl s en S with
    | .nx en S => exss cl r en S
    | q => q
end
/-! ### defs -/
structure FD where
  np : Nat
  ns : Nat
  body : Sms
/-! what a value keeps: the new cells, renamed -/
mutual
def gcV (n : Nat) : PV → List Nat → PV × List Nat
  | .p x, ks => (.p x, ks)
  | .loc k, ks => if k < n then (.loc k, ks) else match ks.idxOf? k with
    | some j => (.loc (n + j), ks)
    | none => (.loc (n + ks.length), ks ++ [k])
  | .mt xs, ks => let q := gcVs n xs ks; (.mt q.1, q.2)
  | .exc c, ks => (.exc c, ks)
def gcVs (n : Nat) : List PV → List Nat → List PV × List Nat
  | [], ks => ([], ks)
  | x :: xs, ks => let q := gcV n x ks; let r := gcVs n xs q.2; (q.1 :: r.1, r.2)
end
def gc (n : Nat) (v : PV) (S : Sto) : R PV := let q := gcV n v []; .ok q.1 (S.take n ++ q.2.filterMap fun k => S[k]?)
def endV (n : Nat) : RS → R PV
  | .rt v S => gc n v S
  | .nx _ S => .ok (.p .none) (S.take n)
  | .ex c _ S => .ex c (S.take n)
  | _ => .no
def callE (T : Nat → Option FD) : Nat → Cl
  | 0, _, _, _ => .no
  | k + 1, f, vs, S => match T f with
    | some d => if vs.length = d.np then endV S.length (exss (callE T k) d.body (vs.map some ++ List.replicate (d.ns - d.np) none) S) else .no
    | none => .no
end Kp

set_option Elab.async false
set_option linter.all false
set_option maxRecDepth 100000
set_option maxHeartbeats 4000000
set_option autoImplicit false
/-! K3: the operations by values are the model's. -/
namespace Kp
open PySem PySem.Spec PyProof.Rows L2
theorem sz {n : Nat} (h : n ≤ 1000000) : n ≤ sizeLine := Nat.le_trans h (by rw [sizeLine_eq]; decide)
theorem szl {n : Nat} (h : n < 1000000) : n < sizeLine := Nat.lt_of_lt_of_le h (by rw [sizeLine_eq]; decide)
section
variable [Xc] {X : Cx} {pins : List (Addr × Obj)} {σ : L2.St} {s : Shared} {W : WX} {CV : Nat → Value} {ρ : Nat → Addr} {S : Sto} {H : Hp} {Q : VK}
theorem G.okp {d : P} {x : V} (g : G X.K W CV σ ρ S H (okP d S) (QV X.K Q)) (sim : Sim X.K ρ S H) (r : RelP X.K H d x) : Q x H := g ρ H Ext.refl sim x (.p r)
theorem G.okb {b : Bool} {Q : Bool → Hp → Prop} (g : G X.K W CV σ ρ S H (R.ok b S) (fun b _ _ H' => Q b H')) (sim : Sim X.K ρ S H) : Q b H := g ρ H Ext.refl sim
theorem G.newC {ds : List P} {xs : List V} {p : Addr} (g : G X.K W CV σ ρ S H (Kp.newC ds S) (QV X.K Q)) (sim : Sim X.K ρ S H) (r : RelPs X.K H ds xs) (hp : H p = none) : Q (.ref p) (upd H p (.lst xs)) := by
  have k := Keep.fresh (HO.lst xs) hp
  obtain ⟨s2, e2⟩ := sim.new (o := .lst xs) (c := .lst ds) hp ⟨xs, upd_same, r.keep k⟩
  have q := g _ _ e2 s2 (.ref p)
  refine q ?_
  have z : RelQ X.K (upd H p (.lst xs)) (put ρ S.length p) (S ++ [Cell.lst ds]).length (.loc S.length) (.ref (put ρ S.length p S.length)) := .loc (by simp)
  rw [put_same] at z
  exact z
theorem G.newL {ds : List P} {xs : List V} (g : G X.K W CV σ ρ S H (Kp.newL ds S) (QV X.K Q)) (sim : Sim X.K ρ S H) (r : RelPs X.K H ds xs) : xs.length ≤ 1000000 ∧ ∀ p, H p = none → Q (.ref p) (upd H p (.lst xs)) := by
  unfold Kp.newL at g
  split at g
  · rename_i h
    exact ⟨by rw [← r.length]; exact h, fun p hp => G.newC g sim r hp⟩
  · exact g.elim
theorem Sim.lst {i : Nat} {ds : List P} (sim : Sim X.K ρ S H) (h : S[i]? = some (.lst ds)) : ∃ xs, H (ρ i) = some (.lst xs) ∧ RelPs X.K H ds xs := sim.cell i _ h
theorem Sim.dct {i : Nat} {ds : List (Key × P)} (sim : Sim X.K ρ S H) (h : S[i]? = some (.dct ds)) : ∃ xs, H (ρ i) = some (.dK xs) ∧ RelKs X.K H ds xs := sim.cell i _ h

theorem ixP_at {α : Type} {xs : List α} {i : Int} : ixP xs i = atI xs i := by
  unfold ixP atI ixN
  by_cases h : 0 ≤ i
  · rw [if_pos h, if_pos h]
    by_cases h2 : i < xs.length
    · rw [if_pos h2]; rfl
    · rw [if_neg h2, List.getElem?_eq_none (by omega)]; rfl
  · rw [if_neg h, if_neg h]
    by_cases h2 : -(xs.length : Int) ≤ i
    · rw [if_pos (by omega), if_pos h2]; rfl
    · rw [if_neg (by omega), if_neg h2]; rfl
theorem RelPs.at {ds : List P} {xs : List V} {i : Int} {d : P} (r : RelPs X.K H ds xs) (h : ixP ds i = some d) : ∃ x, atI xs i = some x ∧ RelP X.K H d x := by
  rw [ixP_at] at h
  unfold atI at h ⊢
  rw [← r.length]
  cases q : ixN ds.length i with
  | none => rw [q] at h; cases h
  | some k =>
    rw [q] at h
    have h' : ds[k]? = some d := h
    obtain ⟨x2, e2, r2⟩ := r.get h'
    exact ⟨x2, e2, r2⟩
theorem RelQs.at {L : Nat} {ds : List PV} {xs : List V} {i : Int} {d : PV} (r : RelQs X.K H ρ L ds xs) (h : ixP ds i = some d) : ∃ x, atI xs i = some x ∧ RelQ X.K H ρ L d x := by
  rw [ixP_at] at h
  unfold atI at h ⊢
  rw [← r.length]
  cases q : ixN ds.length i with
  | none => rw [q] at h; cases h
  | some k =>
    rw [q] at h
    have h' : ds[k]? = some d := h
    obtain ⟨x2, e2, r2⟩ := r.get h'
    exact ⟨x2, e2, r2⟩
theorem cutP_V (xs : List V) (lo hi : Option Int) : cutP xs lo hi = cutV xs lo hi := rfl
theorem RelPs.cut {ds : List P} {xs : List V} (r : RelPs X.K H ds xs) (lo hi : Option Int) : RelPs X.K H (cutP ds lo hi) (cutV xs lo hi) := by
  unfold cutP cutV
  rw [r.length]
  exact (r.drop _).take _
theorem RelPs.nil_iff {ds : List P} {xs : List V} (r : RelPs X.K H ds xs) : xs = [] ↔ ds = [] := by
  cases r <;> simp

def opOf : Bop → Operator
  | .add => .Add | .sub => .Sub | .mul => .Mult | .fdiv => .FloorDiv | .mod => .Mod | .pow => .Pow
theorem CMulB_ok {i j : Int} (h : CMulB i j = true) : CMul i j := by
  unfold CMulB at h
  simp only [Bool.or_eq_true, Bool.and_eq_true, decide_eq_true_eq] at h
  exact h
theorem bin_ok {o : Bop} {px py : PV} {x y : V} {v u : Value} (I : Inv X pins σ H s) (sim : Sim X.K ρ S H) (rx : RelQ X.K H ρ S.length px x) (ry : RelQ X.K H ρ S.length py y) (rv : RelV x v) (ru : RelV y u)
    (g : G X.K W CV σ ρ S H (binV o px py S) (QV X.K Q)) : wpAny (model X.prog X.w) X.A (binaryOp (opOf o) v u) (EP X pins σ Q) X.xe s := by
  unfold binV at g
  split at g
  · cases rx with | p r1 => cases ry with | p r2 =>
    cases r1; cases r2
    exact op_add pins s σ H _ _ v u Q I rv ru ⟨_, _, rfl, rfl, G.okp g sim (.int _)⟩
  · cases rx with | p r1 => cases ry with | p r2 =>
    cases r1; cases r2
    exact op_sub pins s σ H _ _ v u Q I rv ru ⟨_, _, rfl, rfl, G.okp g sim (.int _)⟩
  · cases rx with | p r1 => cases ry with | p r2 =>
    cases r1; cases r2
    split at g
    · rename_i c
      exact op_mul pins s σ H _ _ v u Q I rv ru ⟨_, _, rfl, rfl, CMulB_ok c, G.okp g sim (.int _)⟩
    · exact g.elim
  · cases rx with | p r1 => cases ry with | p r2 =>
    cases r1; cases r2
    split at g
    · rename_i c
      exact op_fdiv pins s σ H _ _ v u Q I rv ru ⟨_, _, rfl, rfl, c, G.okp g sim (.int _)⟩
    · exact g.elim
  · cases rx with | p r1 => cases ry with | p r2 =>
    cases r1; cases r2
    split at g
    · rename_i c
      exact op_mod pins s σ H _ _ v u Q I rv ru ⟨_, _, rfl, rfl, c, G.okp g sim (.int _)⟩
    · exact g.elim
  · cases rx with | p r1 => cases ry with | p r2 =>
    cases r1; cases r2
    split at g
    · rename_i c
      exact op_pow pins s σ H _ _ v u Q I rv ru ⟨_, _, rfl, rfl, c, G.okp g sim (.int _)⟩
    · exact g.elim
  · cases rx with | p r1 => cases ry with | p r2 =>
    cases r1; cases r2
    split at g
    · rename_i c
      exact op_add_str pins s σ H _ _ v u Q I rv ru ⟨_, _, rfl, rfl, sz c, G.okp g sim (.str _)⟩
    · exact g.elim
  · cases rx with | p r1 => cases ry with | p r2 =>
    cases r1 with | tup a1 b1 => cases r2 with | tup a2 b2 =>
    split at g
    · rename_i c
      refine op_catA pins s σ H _ _ v u Q I rv ru ⟨_, _, _, _, rfl, rfl, a1, a2, by rw [← b1.length, ← b2.length]; exact sz c, fun e => ?_, fun e1 e2 => ?_, fun e1 e2 p hp => ?_⟩
      · have z := (RelPs.nil_iff b1).mp e
        subst z
        exact G.okp g sim (.tup a2 (by simpa using b2))
      · have z := (RelPs.nil_iff b2).mp e2
        subst z
        exact G.okp g sim (.tup a1 (by simpa using b1))
      · exact g ρ _ (sim.laid hp).2 (sim.laid hp).1 _ (.p (.tup (SqT.of upd_same) ((b1.append b2).keep (Keep.fresh _ hp))))
    · exact g.elim
  · cases rx with | loc l1 => cases ry with | loc l2 =>
    split at g
    · rename_i h1 h2
      obtain ⟨xs, q1, r1⟩ := sim.lst h1
      obtain ⟨ys, q2, r2⟩ := sim.lst h2
      obtain ⟨z, q⟩ := G.newL g sim (r1.append r2)
      rw [List.length_append] at z
      exact op_cat pins s σ H _ _ v u Q I rv ru ⟨_, _, _, _, rfl, rfl, q1, q2, sz z, q⟩
    · exact g.elim
  · cases rx with | loc l1 => cases ry with | p r2 =>
    cases r2
    split at g
    · rename_i h1
      obtain ⟨xs, q1, r1⟩ := sim.lst h1
      split at g
      · rename_i c
        obtain ⟨z, q⟩ := G.newL g sim (r1.rep _)
        exact op_rep pins s σ H _ _ v u Q I rv ru ⟨_, _, _, rfl, rfl, q1, c.1, c.2.1, by rw [← r1.length]; exact sz c.2.2, q⟩
      · exact g.elim
    · exact g.elim
  · exact g.elim
/-! ### == -/
theorem dat_dp {px : PV} {x : V} {d : P} (sim : Sim X.K ρ S H) (r : RelQ X.K H ρ S.length px x) (h : datV S px = some d) : Dp X.K H x d := by
  cases r with
  | p r => cases h; exact r.dp
  | @loc i l =>
    unfold datV at h
    dsimp only at h
    split at h
    · rename_i e
      cases h
      obtain ⟨xs, q1, r1⟩ := sim.lst e
      exact .lst (SqL.of q1) (RelPs.dp _ _ r1)
    · cases h
  | mt a b => cases h
  | exc _ => cases h
theorem luk_rel {k : Key} : ∀ {kvs : List (Key × P)} {ws : List (Key × V)}, RelKs X.K H kvs ws → (luK kvs k = none ∧ valV ws k = none) ∨ ∃ d x, luK kvs k = some d ∧ valV ws k = some x ∧ RelP X.K H d x
  | [], _, r => by cases r; exact .inl ⟨rfl, rfl⟩
  | (k1, d) :: kvs, _, r => by
    cases r with
    | @cons _ b _ _ a r =>
      obtain ⟨k2, x⟩ := b
      obtain ⟨e, rx⟩ := a
      dsimp only at e rx
      subst e
      by_cases h : k1 = k
      · subst h
        exact .inr ⟨d, x, by simp [luK, List.find?_cons], by simp [valV, List.find?_cons], rx⟩
      · have e1 : luK ((k1, d) :: kvs) k = luK kvs k := by simp [luK, List.find?_cons, h]
        rw [e1, valV_neg (p := (k1, x)) h]
        exact luk_rel r
theorem luk_mem {k : Key} : ∀ {kvs : List (Key × P)} {d : P}, luK kvs k = some d → (k, d) ∈ kvs
  | [], _, h => by cases h
  | (k1, x) :: kvs, d, h => by
    unfold luK at h
    rw [List.find?_cons] at h
    split at h
    · rename_i e
      cases h
      have := of_decide_eq_true e
      dsimp only at this
      subst this
      exact List.mem_cons_self
    · exact List.mem_cons_of_mem _ (luk_mem h)
/-! dicts compared -/
theorem dcv_some {px : PV} {x : V} {kvs : List (Key × P)} (sim : Sim X.K ρ S H) (r : RelQ X.K H ρ S.length px x) (h : dcvV S px = some kvs) : ∃ a ws, x = .ref a ∧ H a = some (.dK ws) ∧ RelKs X.K H kvs ws := by
  cases r with
  | p r => cases h
  | @loc i l =>
    unfold dcvV at h
    dsimp only at h
    split at h
    · rename_i e
      cases h
      obtain ⟨ws, q1, r1⟩ := sim.dct e
      exact ⟨_, ws, rfl, q1, r1⟩
    · cases h
  | mt a b => cases h
  | exc _ => cases h
theorem hits_dat {A : Around} (I : Inv X pins σ H s) (hu : A.units + 60 < cLine) {kb : List (Key × P)} {wb : List (Key × V)} {vb : List (Key × Value)} (rkb : RelKs X.K H kb wb) (rb : KV wb vb) (sb : dshB kb = true) :
    ∀ {ka : List (Key × P)} {wa : List (Key × V)} {va : List (Key × Value)}, RelKs X.K H ka wa → KV wa va → dshB ka = true → PySem.W.KeqHits A s vb va (ka.all fun p => match luK kb p.1 with
      | some y => PyData.eqv p.2 y
      | none => false)
  | [], _, _, rk, ra, _ => by
    cases rk
    cases ra
    exact .nil
  | (k, d) :: ka, _, _, rk, ra, sa => by
    cases rk with | @cons _ b _ wa r1 r2 =>
    cases ra with | @cons _ c _ va q1 q2 =>
    obtain ⟨k2, x⟩ := b
    obtain ⟨k3, v⟩ := c
    obtain ⟨e1, rx⟩ := r1
    obtain ⟨e2, rv⟩ := q1
    dsimp only at e1 rx e2 rv
    subst e1 e2
    simp only [dshB, List.all_cons, Bool.and_eq_true, decide_eq_true_eq] at sa
    obtain ⟨⟨c1, c2⟩, sa2⟩ := sa
    have ih := hits_dat I hu rkb rb sb r2 q2 (by simpa [dshB] using sa2)
    rw [List.all_cons]
    have rr := rb.val k
    rcases luk_rel (k := k) rkb with ⟨a1, a2⟩ | ⟨d2, y, a1, a2, ry⟩
    · rw [a2] at rr
      dsimp only
      rw [a1]
      cases hq : valueAt vb k with
      | none => exact .miss hq
      | some z => rw [hq] at rr; exact rr.elim
    · rw [a2] at rr
      obtain ⟨z, hz, rz⟩ := rr.some_of
      dsimp only
      rw [a1]
      dsimp only
      obtain ⟨as, h1⟩ := Dp.reads I d x v rx.dp rv
      obtain ⟨bs, h2⟩ := Dp.reads I d2 y z ry.dp rz
      have hd2 : d2.canLay0 = true := by
        have hm : (k, d2) ∈ kb := luk_mem a1
        have := List.all_eq_true.mp sb _ hm
        simp only [Bool.and_eq_true] at this
        exact this.1
      have hm : min d.depth d2.depth ≤ d.depth := Nat.min_le_left _ _
      exact .hit hz (SeqAt.eqAt_reads d d2 A s v z as bs h1 h2 c1 hd2 (by omega)) ih
theorem dq_ok {px py : PV} {x y : V} {v u : Value} {Q : Bool → Hp → Prop} {neg : Bool} (hu : X.A.units + 64 < cLine) (I : Inv X pins σ H s) (sim : Sim X.K ρ S H) (rx : RelQ X.K H ρ S.length px x) (ry : RelQ X.K H ρ S.length py y) (rv : RelV x v) (ru : RelV y u)
    (g : G X.K W CV σ ρ S H (dqV px py S) (fun b _ _ H' => Q b H')) : wpAny (model X.prog X.w) X.A (compareOp (match neg with | true => .NotEq | false => .Eq) v u) (EP X pins σ fun z H1 => ∃ k, z = .bl (match neg with | true => !k | false => k) ∧ Q k H1) X.xe s := by
  unfold dqV at g
  split at g
  · rename_i ka kb h1 h2
    obtain ⟨a, wa, rfl, ea, ra⟩ := dcv_some sim rx h1
    obtain ⟨b, wb, rfl, eb, rb⟩ := dcv_some sim ry h2
    obtain rfl : v = Value.ref a := rv
    obtain rfl : u = Value.ref b := ru
    split at g
    · rename_i c
      rw [Bool.and_eq_true] at c
      obtain ⟨_, ya, va, qa, da⟩ := (show ObjOk X.prog X.w H s.heap a (.dK wa) from I.hok a _ ea)
      obtain ⟨_, yb, vb, qb, db⟩ := (show ObjOk X.prog X.w H s.heap b (.dK wb) from I.hok b _ eb)
      have hits := hits_dat (A := X.A.in1) I (by show X.A.units + 1 + 60 < cLine; omega) rb qb c.2 ra qa c.1
      have la : ka.length = va.length := (Paired.length ra).trans (Paired.length qa)
      have lb : kb.length = vb.length := (Paired.length rb).trans (Paired.length qb)
      have q := G.okb g sim
      unfold dqP at q
      rw [la, lb] at q
      cases neg with
      | false => exact PySem.W.keq_eq (knd := mixKind X.prog X.w) ya yb da db (by omega) (fun _ => hits) ⟨.bl _, H, I, rfl, _, rfl, q⟩
      | true => exact PySem.W.keq_ne (knd := mixKind X.prog X.w) ya yb da db (by omega) (fun _ => hits) ⟨.bl _, H, I, rfl, _, rfl, q⟩
    · exact g.elim
  · exact g.elim
theorem eq_ok {px py : PV} {x y : V} {v u : Value} {Q : Bool → Hp → Prop} (hu : X.A.units + 64 < cLine) (I : Inv X pins σ H s) (sim : Sim X.K ρ S H) (rx : RelQ X.K H ρ S.length px x) (ry : RelQ X.K H ρ S.length py y) (rv : RelV x v) (ru : RelV y u)
    (g : G X.K W CV σ ρ S H (eqV' px py S) (fun b _ _ H' => Q b H')) : wpAny (model X.prog X.w) X.A (compareOp .Eq v u) (EP X pins σ fun z H1 => ∃ k, z = .bl k ∧ Q k H1) X.xe s := by
  unfold eqV' at g
  split at g
  · cases rx with | p r1 => cases ry with | p r2 =>
    cases r1; cases r2
    refine op_eq pins s σ H _ _ v u _ I rv ru ⟨rfl, _, rfl, ?_⟩
    have := G.okb g sim
    simpa using this
  · cases rx with | p r1 => cases ry with | p r2 =>
    cases r1; cases r2
    refine op_eq pins s σ H _ _ v u _ I rv ru ⟨rfl, _, rfl, ?_⟩
    have := G.okb g sim
    simpa using this
  · split at g
    · rename_i h1 h2
      split at g
      · rename_i c
        rw [Bool.and_eq_true] at c
        exact op_eqD hu pins s σ H _ _ v u _ I rv ru ⟨_, _, dat_dp sim rx h1, dat_dp sim ry h2, c.1, c.2, _, rfl, G.okb g sim⟩
      · exact g.elim
    · exact dq_ok (neg := false) hu I sim rx ry rv ru g
theorem ne_ok {px py : PV} {x y : V} {v u : Value} {Q : Bool → Hp → Prop} (hu : X.A.units + 64 < cLine) (I : Inv X pins σ H s) (sim : Sim X.K ρ S H) (rx : RelQ X.K H ρ S.length px x) (ry : RelQ X.K H ρ S.length py y) (rv : RelV x v) (ru : RelV y u)
    (g : G X.K W CV σ ρ S H ((eqV' px py S).bind fun b S => .ok (!b) S) (fun b _ _ H' => Q b H')) : wpAny (model X.prog X.w) X.A (compareOp .NotEq v u) (EP X pins σ fun z H1 => ∃ k, z = .bl k ∧ Q k H1) X.xe s := by
  unfold eqV' at g
  split at g
  · cases rx with | p r1 => cases ry with | p r2 =>
    cases r1; cases r2
    refine op_ne pins s σ H _ _ v u _ I rv ru ⟨rfl, _, rfl, ?_⟩
    have := G.okb g sim
    simpa using this
  · cases rx with | p r1 => cases ry with | p r2 =>
    cases r1; cases r2
    refine op_ne pins s σ H _ _ v u _ I rv ru ⟨rfl, _, rfl, ?_⟩
    have := G.okb g sim
    simpa using this
  · split at g
    · rename_i h1 h2
      split at g
      · rename_i c
        rw [Bool.and_eq_true] at c
        exact op_neD hu pins s σ H _ _ v u _ I rv ru ⟨_, _, dat_dp sim rx h1, dat_dp sim ry h2, c.1, c.2, _, rfl, G.okb g sim⟩
      · exact g.elim
    · exact (wpAny_mono (dq_ok (neg := true) (Q := fun k H' => Q (!k) H') hu I sim rx ry rv ru ((G.bind g).imp fun b ρ2 S2 H2 e2 s2 g2 => G.okb g2 s2)) (fun z s1 h => by
        obtain ⟨x1, H1, I1, r1, k, e, q⟩ := h
        exact ⟨x1, H1, I1, r1, !k, e, q⟩) fun _ _ h => h)
/-! ### in -/
theorem flat_rel {d : P} {x : V} (r : RelP X.K H d x) (f : flatP d = true) : flatV x = true := by
  cases r <;> first | rfl | cases f
theorem flat_rels : ∀ {ds : List P} {xs : List V}, RelPs X.K H ds xs → ds.all flatP = true → xs.all flatV = true
  | [], _, r, _ => by cases r; rfl
  | _ :: _, _, r, f => by
    cases r with
    | cons a b =>
      rw [List.all_cons, Bool.and_eq_true] at f
      rw [List.all_cons, flat_rel a f.1, flat_rels b f.2]; rfl
theorem eqv_flat {d e : P} {x y : V} (r : RelP X.K H d x) (q : RelP X.K H e y) (f : flatP d = true) (f2 : flatP e = true) : PyData.eqv d e = eqV x y := by
  cases r <;> cases q <;> first | rfl | cases f | cases f2
theorem any_flat {d : P} {x : V} (r : RelP X.K H d x) (f : flatP d = true) : ∀ {ds : List P} {xs : List V}, RelPs X.K H ds xs → ds.all flatP = true → (ds.any fun y => PyData.eqv y d) = inV x xs
  | [], _, q, _ => by cases q; rfl
  | _ :: _, _, q, f2 => by
    cases q with
    | cons a b =>
      rw [List.all_cons, Bool.and_eq_true] at f2
      unfold inV
      rw [List.any_cons, List.any_cons, eqv_flat a r f2.1 f, any_flat r f b f2.2]; rfl
theorem keyP_rel {d : P} {x : V} {k : Key} (r : RelP X.K H d x) (h : keyP d = some k) : x = kV k := by
  cases r <;> simp [keyP] at h <;> subst h <;> rfl
theorem lu_rel {k : Key} : ∀ {kvs : List (Key × P)} {ws : List (Key × V)}, RelKs X.K H kvs ws → (luK kvs k = none ∧ valV ws k = none) ∨ ∃ d x, luK kvs k = some d ∧ valV ws k = some x ∧ RelP X.K H d x
  | [], _, r => by cases r; exact .inl ⟨rfl, rfl⟩
  | (k1, d) :: kvs, _, r => by
    cases r with
    | @cons _ b _ _ a r =>
      obtain ⟨k2, x⟩ := b
      obtain ⟨e, rx⟩ := a
      dsimp only at e rx
      subst e
      by_cases h : k1 = k
      · subst h
        exact .inr ⟨d, x, by simp [luK, List.find?_cons], by simp [valV, List.find?_cons], rx⟩
      · have e1 : luK ((k1, d) :: kvs) k = luK kvs k := by simp [luK, List.find?_cons, h]
        rw [e1, valV_neg (p := (k1, x)) h]
        exact lu_rel r
theorem lu_some {k : Key} {kvs : List (Key × P)} {ws : List (Key × V)} (r : RelKs X.K H kvs ws) : (luK kvs k).isSome = (valV ws k).isSome := by
  rcases lu_rel (k := k) r with ⟨a, b⟩ | ⟨d, x, a, b, _⟩ <;> rw [a, b] <;> rfl
theorem str1 {a : Str} (h : a.length = 1) : a = ⟨#[a.cps.getD 0 0]⟩ := by
  obtain ⟨c⟩ := a
  have h' : c.size = 1 := h
  obtain ⟨l⟩ := c
  match l, h' with
  | [y], _ => rfl
/-- one branch a way: rules for In, NotIn by a flag -/
def inOp : Bool → CmpOp
  | false => .In
  | true => .NotIn
theorem in_ok {neg : Bool} {px py : PV} {x y : V} {v u : Value} {Q : Bool → Hp → Prop} (hu : X.A.units + 1 < cLine) (I : Inv X pins σ H s) (sim : Sim X.K ρ S H) (rx : RelQ X.K H ρ S.length px x) (ry : RelQ X.K H ρ S.length py y) (rv : RelV x v) (ru : RelV y u)
    (g : G X.K W CV σ ρ S H (inV' px py S) (fun b _ _ H' => Q b H')) : wpAny (model X.prog X.w) X.A (compareOp (inOp neg) v u) (EP X pins σ fun z H1 => ∃ k, z = .bl (if neg then !k else k) ∧ Q k H1) X.xe s := by
  have seq : ∀ {d : P} {a : Addr} {ds : List P} {xs : List V}, RelP X.K H d x → y = .ref a → (SqL X.K H a xs ∨ SqT X.K H a xs) → RelPs X.K H ds xs → flatP d = true → ds.all flatP = true → Q (ds.any fun y => PyData.eqv y d) H →
      wpAny (model X.prog X.w) X.A (compareOp (inOp neg) v u) (EP X pins σ fun z H1 => ∃ k, z = .bl (if neg then !k else k) ∧ Q k H1) X.xe s := by
    intro d a ds xs rd ey hs rs f1 f2 q
    rw [any_flat rd f1 rs f2] at q
    cases neg with
    | false => exact op_in_seq pins s σ H _ _ v u _ I rv ru ⟨a, xs, ey, hs, flat_rel rd f1, flat_rels rs f2, _, rfl, q⟩
    | true => exact op_notIn_seq pins s σ H _ _ v u _ I rv ru ⟨a, xs, ey, hs, flat_rel rd f1, flat_rels rs f2, _, rfl, q⟩
  unfold inV' at g
  split at g
  · cases rx with | p r1 => cases ry with | p r2 =>
    cases r1; cases r2
    split at g
    · rename_i h
      have q := G.okb g sim
      cases neg with
      | false => exact op_in_sign pins s σ H _ _ v u _ I rv ru ⟨_, _, congrArg V.str (str1 h), rfl, _, rfl, q⟩
      | true => exact op_notIn_sign pins s σ H _ _ v u _ I rv ru ⟨_, _, congrArg V.str (str1 h), rfl, _, rfl, q⟩
    · exact g.elim
  · cases rx with | p r1 => cases ry with | loc l2 =>
    split at g
    · rename_i h
      obtain ⟨ws, q1, rw1⟩ := sim.dct h
      split at g
      · rename_i k hk
        have ex := keyP_rel r1 hk
        have q := G.okb g sim
        rw [lu_some rw1] at q
        have dg := DGet.k (k := k) q1
        cases ru
        cases neg with
        | false => exact d_in hu I (ex ▸ dg) rv fun s' I' => ⟨.bl _, H, I', rfl, _, rfl, q⟩
        | true => exact d_notIn hu I (ex ▸ dg) rv fun s' I' => ⟨.bl _, H, I', rfl, _, rfl, q⟩
      · exact g.elim
    · rename_i h
      split at g
      · rename_i c
        rw [Bool.and_eq_true] at c
        obtain ⟨xs, q1, rs⟩ := sim.lst h
        exact seq r1 rfl (.inl (SqL.of q1)) rs c.1 c.2 (G.okb g sim)
      · exact g.elim
    · exact g.elim
  · cases rx with | p r1 => cases ry with | p r2 =>
    cases r2 with | tup a2 b2 =>
    split at g
    · rename_i c
      rw [Bool.and_eq_true] at c
      exact seq r1 rfl (.inr a2) b2 c.1 c.2 (G.okb g sim)
    · exact g.elim
  · exact g.elim
def copOf : Cop → CmpOp
  | .eq => .Eq | .ne => .NotEq | .lt => .Lt | .le => .LtE | .gt => .Gt | .ge => .GtE | .is => .Is | .isn => .IsNot | .inn => .In | .nin => .NotIn
theorem ep_imp {Q Q' : VK} {u : Value} {s' : Shared} (h : EP X pins σ Q u s') (f : ∀ x H, Q x H → Q' x H) : EP X pins σ Q' u s' := by
  obtain ⟨v, H', I', r, q⟩ := h
  exact ⟨v, H', I', r, f _ _ q⟩
theorem nonP_rel {d : P} {x : V} (r : RelP X.K H d x) : nonP d = decide (x = .non) := by
  cases r <;> rfl
theorem loc_ref {i : Nat} {x : V} (r : RelQ X.K H ρ S.length (.loc i) x) : x = .ref (ρ i) := by cases r; rfl
theorem cmp_ok {o : Cop} {px py : PV} {x y : V} {v u : Value} {Q : Bool → Hp → Prop} (hu : X.A.units + 64 < cLine) (I : Inv X pins σ H s) (sim : Sim X.K ρ S H) (rx : RelQ X.K H ρ S.length px x) (ry : RelQ X.K H ρ S.length py y) (rv : RelV x v) (ru : RelV y u)
    (g : G X.K W CV σ ρ S H (cmpV o px py S) (fun b _ _ H' => Q b H')) : wpAny (model X.prog X.w) X.A (compareOp (copOf o) v u) (EP X pins σ fun z H1 => ∃ k, z = .bl k ∧ Q k H1) X.xe s := by
  have hu1 : X.A.units + 1 < cLine := by omega
  cases o with
  | eq => exact eq_ok hu I sim rx ry rv ru g
  | ne => exact ne_ok hu I sim rx ry rv ru g
  | lt =>
    unfold cmpV at g
    dsimp only at g
    split at g
    · cases rx with | p r1 => cases ry with | p r2 =>
      cases r1; cases r2
      exact op_lt pins s σ H _ _ v u _ I rv ru ⟨_, _, rfl, rfl, _, rfl, G.okb g sim⟩
    · exact g.elim
  | le =>
    unfold cmpV at g
    dsimp only at g
    split at g
    · cases rx with | p r1 => cases ry with | p r2 =>
      cases r1; cases r2
      exact op_le pins s σ H _ _ v u _ I rv ru ⟨_, _, rfl, rfl, _, rfl, G.okb g sim⟩
    · exact g.elim
  | gt =>
    unfold cmpV at g
    dsimp only at g
    split at g
    · cases rx with | p r1 => cases ry with | p r2 =>
      cases r1; cases r2
      exact op_gt pins s σ H _ _ v u _ I rv ru ⟨_, _, rfl, rfl, _, rfl, G.okb g sim⟩
    · exact g.elim
  | ge =>
    unfold cmpV at g
    dsimp only at g
    split at g
    · cases rx with | p r1 => cases ry with | p r2 =>
      cases r1; cases r2
      exact op_ge pins s σ H _ _ v u _ I rv ru ⟨_, _, rfl, rfl, _, rfl, G.okb g sim⟩
    · exact g.elim
  | is =>
    unfold cmpV at g
    dsimp only at g
    split at g
    · cases rx with | p r1 => cases ry with | p r2 =>
      cases r2
      have q := G.okb g sim
      rw [nonP_rel r1] at q
      exact op_isN pins s σ H _ _ v u _ I rv ru ⟨rfl, _, rfl, q⟩
    · cases ry with | p r2 =>
      cases r2
      cases rx with | loc l =>
      exact op_isN pins s σ H _ _ v u _ I rv ru ⟨rfl, _, rfl, G.okb g sim⟩
    · cases ry with | p r2 =>
      cases r2
      cases rx with | mt a b =>
      exact op_isN pins s σ H _ _ v u _ I rv ru ⟨rfl, _, rfl, G.okb g sim⟩
    · cases rx with | p r1 => cases ry with | p r2 =>
      cases r1; cases r2
      exact op_isBl pins s σ H _ _ v u _ I rv ru ⟨_, _, rfl, rfl, _, rfl, G.okb g sim⟩
    · exact g.elim
  | isn =>
    unfold cmpV at g
    dsimp only at g
    split at g
    · cases rx with | p r1 => cases ry with | p r2 =>
      cases r2
      have q := G.okb g sim
      rw [nonP_rel r1] at q
      exact op_notN pins s σ H _ _ v u _ I rv ru ⟨rfl, _, rfl, q⟩
    · cases ry with | p r2 =>
      cases r2
      cases rx with | loc l =>
      exact op_notN pins s σ H _ _ v u _ I rv ru ⟨rfl, _, rfl, G.okb g sim⟩
    · cases ry with | p r2 =>
      cases r2
      cases rx with | mt a b =>
      exact op_notN pins s σ H _ _ v u _ I rv ru ⟨rfl, _, rfl, G.okb g sim⟩
    · cases rx with | p r1 => cases ry with | p r2 =>
      cases r1; cases r2
      exact op_notBl pins s σ H _ _ v u _ I rv ru ⟨_, _, rfl, rfl, _, rfl, G.okb g sim⟩
    · exact g.elim
  | inn => exact thn (in_ok (neg := false) hu1 I sim rx ry rv ru g) fun u s' h => ep_imp h fun x H ⟨k, e, q⟩ => ⟨k, e, q⟩
  | nin =>
    have g' := G.bind g
    refine thn (in_ok (Q := fun b H => Q (!b) H) (neg := true) hu1 I sim rx ry rv ru (g'.imp fun b ρ' S' H' e sm q => ?_)) fun u s' h => ep_imp h fun x H ⟨k, e, q⟩ => ⟨!k, e, q⟩
    exact q ρ' H' Ext.refl sm
end
end Kp

set_option Elab.async false
set_option linter.all false
set_option maxRecDepth 100000
set_option maxHeartbeats 4000000
set_option autoImplicit false
/-! K4: truth, subscripts, slices, builtins, methods, stores. -/
namespace Kp
open PySem PySem.Spec PyProof.Rows L2
section
variable [Xc] {X : Cx} {pins : List (Addr × Obj)} {σ : L2.St} {s : Shared} {W : WX} {CV : Nat → Value} {ρ : Nat → Addr} {S : Sto} {H : Hp} {Q : VK}
theorem RelPs.empty {ds : List P} {xs : List V} (r : RelPs X.K H ds xs) : (!ds.isEmpty) = !xs.isEmpty := by cases r <;> rfl
theorem RelKs.empty {ds : List (Key × P)} {xs : List (Key × V)} (r : RelKs X.K H ds xs) : (!ds.isEmpty) = !xs.isEmpty := by cases r <;> rfl
theorem RelKs.length : ∀ {ds : List (Key × P)} {xs : List (Key × V)}, RelKs X.K H ds xs → ds.length = xs.length
  | _, _, .nil => rfl
  | _, _, .cons _ t => by simp [RelKs.length t]
theorem tru_okV {px : PV} {x : V} {Q : Bool → Hp → Prop} (sim : Sim X.K ρ S H) (rx : RelQ X.K H ρ S.length px x) (g : G X.K W CV σ ρ S H (truV px S) (fun b _ _ H' => Q b H')) : ∃ k, TruV X.K x H k ∧ Q k H := by
  unfold truV at g
  split at g
  · cases rx with | p r =>
    cases r
    exact ⟨_, rfl, G.okb g sim⟩
  · cases rx with | p r =>
    cases r
    exact ⟨_, rfl, G.okb g sim⟩
  · cases rx with | p r =>
    cases r
    exact ⟨_, rfl, G.okb g sim⟩
  · cases rx with | p r =>
    cases r
    split at g
    · rename_i z c
      have q := G.okb g sim
      refine ⟨_, ⟨sz c, rfl⟩, ?_⟩
      have e : ((z.length : Int) != 0) = (z.length != 0) := by
        have : ((z.length : Int) == 0) = (z.length == 0) := by rw [Bool.eq_iff_iff, beq_iff_eq, beq_iff_eq]; omega
        unfold bne; rw [this]
      rw [e]; exact q
    · exact g.elim
  · cases rx with | p r =>
    cases r with | tup a b =>
    have q := G.okb g sim
    rw [RelPs.empty b] at q
    exact ⟨_, .inr (.inl ⟨_, a, rfl⟩), q⟩
  · cases rx with | loc l =>
    split at g
    · rename_i h
      obtain ⟨xs, q1, r1⟩ := sim.lst h
      have q := G.okb g sim
      rw [RelPs.empty r1] at q
      exact ⟨_, .inl ⟨_, SqL.of q1, rfl⟩, q⟩
    · rename_i h
      obtain ⟨xs, q1, r1⟩ := sim.dct h
      have q := G.okb g sim
      rw [RelKs.empty r1] at q
      exact ⟨_, .inr (.inr ⟨_, q1, rfl⟩), q⟩
    · exact g.elim
  · exact g.elim
/-- a[i], a no dict -/
theorem ix_ok {px pi : PV} {x i : V} (sim : Sim X.K ρ S H) (rx : RelQ X.K H ρ S.length px x) (ri : RelQ X.K H ρ S.length pi i) (nd : ∀ l kvs, px = .loc l → S[l]? ≠ some (.dct kvs))
    (g : G X.K W CV σ ρ S H (ixV px pi S) (QV X.K Q)) : rIx X.K x i H Q := by
  unfold ixV at g
  split at g
  · cases rx with | p r => cases ri with | p q =>
    cases q
    cases r with | tup a b =>
    split at g
    · rename_i h
      obtain ⟨v, e, rv⟩ := b.at h
      exact .inr (.inl ⟨_, _, _, _, rfl, rfl, a, e, G.okp g sim rv⟩)
    · exact g.elim
  · cases rx with | p r => cases ri with | p q =>
    cases q
    cases r with | lst a b =>
    split at g
    · rename_i h
      obtain ⟨v, e, rv⟩ := b.at h
      exact .inl ⟨_, _, _, _, rfl, rfl, a.sq, e, G.okp g sim rv⟩
    · exact g.elim
  · cases rx with | mt a b => cases ri with | p q =>
    cases q
    split at g
    · rename_i h
      obtain ⟨v, e, rv⟩ := RelQs.at b h
      exact .inr (.inl ⟨_, _, _, _, rfl, rfl, a, e, g ρ H Ext.refl sim v rv⟩)
    · exact g.elim
  · cases rx with | p r => cases ri with | p q =>
    cases q
    cases r
    split at g
    · rename_i c
      split at g
      · rename_i h
        rw [ixP_at] at h
        exact .inr (.inr ⟨_, _, _, rfl, rfl, sz c, h, G.okp g sim (.str _)⟩)
      · exact g.elim
    · exact g.elim
  · cases rx with | loc l => cases ri with | p q =>
    split at g
    · rename_i h
      obtain ⟨xs, q1, r1⟩ := sim.lst h
      split at g
      · cases q
        split at g
        · rename_i h2
          obtain ⟨v, e, rv⟩ := r1.at h2
          exact .inl ⟨_, _, _, _, rfl, rfl, SqL.of q1, e, G.okp g sim rv⟩
        · exact g.elim
      · exact g.elim
    · rename_i h
      exact absurd h (nd _ _ rfl)
    · exact g.elim
  · exact g.elim
/-- d[k] -/
theorem dix_ok {l : Nat} {kvs : List (Key × P)} {pi : PV} {x i : V} (sim : Sim X.K ρ S H) (rx : RelQ X.K H ρ S.length (.loc l) x) (ri : RelQ X.K H ρ S.length pi i) (hd : S[l]? = some (.dct kvs))
    (g : G X.K W CV σ ρ S H (ixV (.loc l) pi S) (QV X.K Q)) : ∃ a v, x = .ref a ∧ DGet H a i (some v) ∧ Q v H := by
  unfold ixV at g
  cases ri with
  | p q =>
    dsimp only at g
    rw [hd] at g
    dsimp only at g
    obtain ⟨ws, q1, rw1⟩ := sim.dct hd
    split at g
    · rename_i k hk
      split at g
      · rename_i d h
        rcases lu_rel (k := k) rw1 with ⟨a, b⟩ | ⟨d2, v, a, b, rv⟩
        · rw [a] at h; cases h
        · rw [a] at h; cases h
          cases rx
          have dg := DGet.k (k := k) q1
          rw [b] at dg
          rw [keyP_rel q hk]
          exact ⟨_, v, rfl, dg, G.okp g sim rv⟩
      · exact g.elim
    · exact g.elim
  | loc _ => exact g.elim
  | mt _ _ => exact g.elim
  | exc _ => exact g.elim
theorem str_cut (z : Str) (lo hi : Option Int) : (⟨(cutP z.cps.toList lo hi).toArray⟩ : Str) = cutS z lo hi := by
  unfold cutP cutS
  rw [Array.length_toList]; rfl
abbrev rSlK (K : PySem.W.Frag) : V → Option Int → Option Int → Hp → VK → Prop := fun x lo hi H Q => rSlA K x lo hi H Q ∨ (fun x lo hi H Q => rSlL K x lo hi H Q ∨ rSlS x lo hi H Q) x lo hi H Q
theorem sl_all : SlR X (rSlK X.K) := sl_tupA.or (sl_list.or sl_str)
theorem sl_ok {px : PV} {x : V} {lo hi : Option Int} (sim : Sim X.K ρ S H) (rx : RelQ X.K H ρ S.length px x)
    (g : G X.K W CV σ ρ S H (slV px lo hi S) (QV X.K Q)) : rSlK X.K x lo hi H Q := by
  unfold slV at g
  split at g
  · cases rx with | p r =>
    cases r with | tup a b =>
    refine .inl ⟨_, _, rfl, a, fun e => ?_, fun e p hp => ?_⟩
    · refine G.okp g sim (.tup a ?_)
      have c := b.cut lo hi
      have z : cutV _ lo hi = _ := (by
        unfold cutV
        rw [e.1, e.2, List.drop_zero, Nat.sub_zero, List.take_length])
      rw [z] at c
      exact c
    · exact g ρ _ (sim.laid hp).2 (sim.laid hp).1 _ (.p (.tup (SqT.of upd_same) ((b.cut lo hi).keep (Keep.fresh _ hp))))
  · cases rx with | p r =>
    cases r with | lst a b =>
    exact .inr (.inl ⟨_, _, rfl, a.sq, fun p hp => G.newC g sim (b.cut lo hi) hp⟩)
  · cases rx with | p r =>
    cases r
    split at g
    · rename_i c
      refine .inr (.inr ⟨_, rfl, sz c, ?_⟩)
      rw [str_cut] at g
      exact G.okp g sim (.str _)
    · exact g.elim
  · cases rx with | loc l =>
    split at g
    · rename_i h
      obtain ⟨xs, q1, r1⟩ := sim.lst h
      exact .inr (.inl ⟨_, _, rfl, SqL.of q1, fun p hp => G.newC g sim (r1.cut lo hi) hp⟩)
    · exact g.elim
  · exact g.elim
/-! ### builtins -/
theorem intsP_eq : ∀ {ds : List P} {ns : List Int}, intsP ds = some ns → ds = ns.map .int
  | [], _, h => by cases h; rfl
  | .int i :: r, _, h => by
    unfold intsP at h
    cases q : intsP r with
    | none => rw [q] at h; cases h
    | some ms => rw [q] at h; cases h; rw [intsP_eq q]; rfl
  | .none :: _, _, h | .bool _ :: _, _, h | .str _ :: _, _, h | .list _ :: _, _, h | .tuple _ :: _, _, h | .dict _ :: _, _, h => by cases h
theorem blsP_eq : ∀ {ds : List P} {ns : List Bool}, blsP ds = some ns → ds = ns.map .bool
  | [], _, h => by cases h; rfl
  | .bool i :: r, _, h => by
    unfold blsP at h
    cases q : blsP r with
    | none => rw [q] at h; cases h
    | some ms => rw [q] at h; cases h; rw [blsP_eq q]; rfl
  | .none :: _, _, h | .int _ :: _, _, h | .str _ :: _, _, h | .list _ :: _, _, h | .tuple _ :: _, _, h | .dict _ :: _, _, h => by cases h
theorem strsP_eq : ∀ {ds : List P} {ns : List Str}, strsP ds = some ns → ds = ns.map .str
  | [], _, h => by cases h; rfl
  | .str i :: r, _, h => by
    unfold strsP at h
    cases q : strsP r with
    | none => rw [q] at h; cases h
    | some ms => rw [q] at h; cases h; rw [strsP_eq q]; rfl
  | .none :: _, _, h | .int _ :: _, _, h | .bool _ :: _, _, h | .list _ :: _, _, h | .tuple _ :: _, _, h | .dict _ :: _, _, h => by cases h
theorem maxI_spec : ∀ (r : List Int) (m : Int), (maxI m r = m ∨ maxI m r ∈ r) ∧ m ≤ maxI m r ∧ ∀ y ∈ r, y ≤ maxI m r
  | [], m => ⟨.inl rfl, Int.le_refl _, fun y h => by cases h⟩
  | x :: r, m => by
    obtain ⟨a, b, c⟩ := maxI_spec r (if x > m then x else m)
    have e : maxI m (x :: r) = maxI (if x > m then x else m) r := rfl
    rw [e]
    by_cases h : x > m
    · rw [if_pos h] at a b c ⊢
      refine ⟨?_, by omega, fun y hy => ?_⟩
      · rcases a with a | a
        · exact .inr (by rw [a]; exact List.mem_cons_self)
        · exact .inr (List.mem_cons_of_mem _ a)
      · rcases List.mem_cons.mp hy with rfl | hy
        · exact b
        · exact c y hy
    · rw [if_neg h] at a b c ⊢
      refine ⟨?_, b, fun y hy => ?_⟩
      · rcases a with a | a
        · exact .inl a
        · exact .inr (List.mem_cons_of_mem _ a)
      · rcases List.mem_cons.mp hy with rfl | hy
        · omega
        · exact c y hy
theorem maxI_uniq {n m : Int} {ns : List Int} (h1 : m ∈ n :: ns) (h2 : ∀ y, y ∈ n :: ns → y ≤ m) : m = maxI n ns := by
  obtain ⟨a, b, c⟩ := maxI_spec ns n
  have x1 : m ≤ maxI n ns := by
    rcases List.mem_cons.mp h1 with rfl | h
    · exact b
    · exact c m h
  have x2 : maxI n ns ≤ m := by
    rcases a with a | a
    · rw [a]; exact h2 n List.mem_cons_self
    · exact h2 _ (List.mem_cons_of_mem _ a)
  omega
theorem insI_perm (x : Int) : ∀ r, (insI x r).Perm (x :: r)
  | [] => .refl _
  | y :: r => by
    unfold insI
    split
    · exact .refl _
    · exact ((insI_perm x r).cons y).trans (.swap x y r)
theorem sortI_perm : ∀ r, (sortI r).Perm r
  | [] => .refl _
  | x :: r => (insI_perm x (sortI r)).trans ((sortI_perm r).cons x)
theorem insI_mem {x y : Int} {r : List Int} (h : y ∈ insI x r) : y = x ∨ y ∈ r := by
  have := (insI_perm x r).mem_iff.mp h
  simpa using this
theorem insI_sorted (x : Int) : ∀ r : List Int, r.Pairwise (· ≤ ·) → (insI x r).Pairwise (· ≤ ·)
  | [], _ => by simp [insI]
  | y :: r, h => by
    unfold insI
    rw [List.pairwise_cons] at h
    split
    · rename_i c
      rw [List.pairwise_cons, List.pairwise_cons]
      refine ⟨fun z hz => ?_, h⟩
      rcases List.mem_cons.mp hz with rfl | hz
      · exact c
      · exact Int.le_trans c (h.1 z hz)
    · rename_i c
      rw [List.pairwise_cons]
      refine ⟨fun z hz => ?_, insI_sorted x r h.2⟩
      rcases insI_mem hz with rfl | hz
      · omega
      · exact h.1 z hz
theorem sortI_sorted : ∀ r : List Int, (sortI r).Pairwise (· ≤ ·)
  | [] => by simp [sortI]
  | x :: r => insI_sorted x _ (sortI_sorted r)
theorem RelKs.keys : ∀ {kvs : List (Key × P)} {ws : List (Key × V)}, RelKs X.K H kvs ws → RelPs X.K H (kvs.map fun kv => pKey kv.1) (ws.map fun kv => kV kv.1)
  | _, _, .nil => .nil
  | _, _, .cons (a := a) (b := b) r t => by
    obtain ⟨e, _⟩ := r
    refine .cons ?_ (RelKs.keys t)
    show RelP X.K H (pKey a.1) (kV b.1)
    rw [e]
    cases b.1 with
    | inl i => exact .int i
    | inr s => exact .str s
theorem lock_dk {d : Addr} {ws : List (Key × V)} (I : Inv X pins σ H s) (h : H d = some (.dK ws)) : Rd H d (.dK ws) := .inl h
def hotBi : Bi → Bool
  | .len => true | .int => true | .str => true | .tup => true | .dict => true | _ => false
/-- the builtins that are called by their names, no type -/
def biId : Bi → Option String
  | .len => some "len" | .sum => some "sum" | .all => some "all" | .max1 => some "max" | .max2 => some "max" | .min2 => some "min" | .sorted => some "sorted" | _ => none
def biTy : Bi → Option String
  | .tup => some "tuple" | .lst => some "list" | .int => some "int" | .str => some "str" | .dict => some "dict" | _ => none
theorem bi_ok {b : Bi} {id : String} {ps : List PV} {xs : List V} {us : List Value} (hc : hotBi b = false → X.calm = true) (hb : biId b = some id) (I : Inv X pins σ H s) (sim : Sim X.K ρ S H) (rx : RelQs X.K H ρ S.length ps xs) (ru : Vals xs us)
    (g : G X.K W CV σ ρ S H (biV b ps S) (QV X.K Q)) : wpAny (model X.prog X.w) X.A (call (.builtin id) us) (EP X pins σ Q) X.xe s := by
  unfold biV at g
  split at g <;> first
    | exact g.elim
    | (cases hb; done)
    | skip
  · cases hb
    cases rx with | cons r1 r2 =>
    cases r2
    cases r1 with | loc l =>
    split at g
    · rename_i h
      obtain ⟨xs, q1, r⟩ := sim.lst h
      refine call_len pins s σ H _ us Q I ru ⟨_, _, rfl, .inl ⟨_, SqL.of q1, rfl⟩, ?_⟩
      have q := G.okp g sim (.int _)
      rw [r.length] at q; exact q
    · rename_i h
      obtain ⟨xs, q1, r⟩ := sim.dct h
      obtain ⟨u, rfl, e⟩ := vals1 ru
      cases e
      refine d_len I (.inl q1) fun t s' I' => ⟨.int _, H, I', ⟨t, rfl⟩, ?_⟩
      have q := G.okp g sim (.int _)
      rw [RelKs.length r] at q; exact q
    · exact g.elim
  · cases hb
    cases rx with | cons r1 r2 =>
    cases r2
    cases r1 with | p r =>
    cases r with | tup a b =>
    refine call_len pins s σ H _ us Q I ru ⟨_, _, rfl, .inr ⟨_, a, rfl⟩, ?_⟩
    have q := G.okp g sim (.int _)
    rw [b.length] at q; exact q
  · cases hb
    cases rx with | cons r1 r2 =>
    cases r2
    cases r1 with | p r =>
    cases r with | lst a b =>
    refine call_len pins s σ H _ us Q I ru ⟨_, _, rfl, .inl ⟨_, a.sq, rfl⟩, ?_⟩
    have q := G.okp g sim (.int _)
    rw [b.length] at q; exact q
  · cases hb
    cases rx with | cons r1 r2 =>
    cases r2
    cases r1 with | mt a b =>
    refine call_len pins s σ H _ us Q I ru ⟨_, _, rfl, .inr ⟨_, a, rfl⟩, ?_⟩
    have q := G.okp g sim (.int _)
    rw [b.length] at q; exact q
  · cases hb
    cases rx with | cons r1 r2 =>
    cases r2
    cases r1 with | p r =>
    cases r
    split at g
    · rename_i c
      exact call_len pins s σ H _ us Q I ru ⟨_, _, rfl, ⟨sz c, rfl⟩, G.okp g sim (.int _)⟩
    · exact g.elim
  · cases hb
    cases rx with | cons r1 r2 =>
    cases r2
    cases r1 with | loc l =>
    split at g
    · rename_i h
      obtain ⟨xs, q1, r⟩ := sim.lst h
      split at g
      · rename_i hi
        rw [intsP_eq hi] at r
        rw [r.toInts] at q1
        exact cr_sum (hc rfl) pins s σ H _ us Q I ru ⟨_, _, rfl, SqL.of q1, G.okp g sim (.int _)⟩
      · exact g.elim
    · exact g.elim
  · cases hb
    cases rx with | cons r1 r2 =>
    cases r2
    cases r1 with | loc l =>
    split at g
    · rename_i h
      obtain ⟨xs, q1, r⟩ := sim.lst h
      split at g
      · rename_i hi
        rw [blsP_eq hi] at r
        rw [r.toBls] at q1
        exact cr_all (hc rfl) pins s σ H _ us Q I ru ⟨_, _, rfl, SqL.of q1, G.okp g sim (.bl _)⟩
      · exact g.elim
    · exact g.elim
  · cases hb
    cases rx with | cons r1 r2 =>
    cases r2
    cases r1 with | loc l =>
    split at g
    · rename_i h
      obtain ⟨xs, q1, r⟩ := sim.lst h
      split at g
      · rename_i hi
        rw [intsP_eq hi] at r
        rw [r.toInts] at q1
        refine cr_max (hc rfl) pins s σ H _ us Q I ru ⟨_, _, rfl, SqL.of q1, by simp, fun m h1 h2 => ?_⟩
        rw [maxI_uniq h1 h2]
        exact G.okp g sim (.int _)
      · exact g.elim
    · exact g.elim
  · cases hb
    cases rx with | cons r1 r2 =>
    cases r2 with | cons r2 r3 =>
    cases r3
    cases r1 with | p r1 => cases r2 with | p r2 =>
    cases r1; cases r2
    exact call_max2 (hc rfl) pins s σ H _ us Q I ru ⟨_, _, rfl, G.okp g sim (.int _)⟩
  · cases hb
    cases rx with | cons r1 r2 =>
    cases r2 with | cons r2 r3 =>
    cases r3
    cases r1 with | p r1 => cases r2 with | p r2 =>
    cases r1; cases r2
    exact call_min2 (hc rfl) pins s σ H _ us Q I ru ⟨_, _, rfl, G.okp g sim (.int _)⟩
  · cases hb
    cases rx with | cons r1 r2 =>
    cases r2
    cases r1 with | loc l =>
    split at g
    · rename_i h
      obtain ⟨xs, q1, r⟩ := sim.lst h
      split at g
      · rename_i hi
        rw [intsP_eq hi] at r
        rw [r.toInts] at q1
        refine cr_sortedI pins s σ H _ us Q I ru ⟨_, _, rfl, SqL.of q1, ?_⟩
        intro ns' p hperm hsort hp
        have e : ns' = sortI _ := PySem.W.ksm_same (hperm.trans (sortI_perm _).symm) hsort (sortI_sorted _)
        rw [e]
        exact G.newC g sim RelPs.ints hp
      · exact g.elim
    · exact g.elim
theorem bt_ok {b : Bi} {id : String} {ps : List PV} {xs : List V} {us : List Value} (hc : hotBi b = false → X.calm = true) (hb : biTy b = some id) (I : Inv X pins σ H s) (sim : Sim X.K ρ S H) (rx : RelQs X.K H ρ S.length ps xs) (ru : Vals xs us)
    (g : G X.K W CV σ ρ S H (biV b ps S) (QV X.K Q)) : wpAny (model X.prog X.w) X.A (call (.type id) us) (EP X pins σ Q) X.xe s := by
  unfold biV at g
  split at g <;> first
    | exact g.elim
    | (cases hb; done)
    | skip
  · cases hb
    cases rx with | cons r1 r2 =>
    cases r2
    cases r1 with | p r =>
    cases r with | tup a b =>
    exact call_tuple_of pins s σ H _ us Q I ru ⟨_, _, rfl, .inr ⟨a, G.okp g sim (.tup a b)⟩⟩
  · cases hb
    cases rx with | cons r1 r2 =>
    cases r2
    cases r1 with | loc l =>
    split at g
    · rename_i h
      obtain ⟨xs, q1, r⟩ := sim.lst h
      exact call_tuple_of pins s σ H _ us Q I ru ⟨_, _, rfl, .inl ⟨SqL.of q1, fun p hp => g ρ _ (sim.laid hp).2 (sim.laid hp).1 _ (.p (.tup (SqT.of upd_same) (r.keep (Keep.fresh _ hp))))⟩⟩
    · exact g.elim
  · cases hb
    cases rx with | cons r1 r2 =>
    cases r2
    cases r1 with | p r =>
    cases r with | tup a b =>
    exact call_list_of pins s σ H _ us Q I ru ⟨_, _, rfl, .inr a, fun p hp => G.newC g sim b hp⟩
  · cases hb
    cases rx with | cons r1 r2 =>
    cases r2
    cases r1 with | p r =>
    cases r with | lst a b =>
    exact call_list_of pins s σ H _ us Q I ru ⟨_, _, rfl, .inl a.sq, fun p hp => G.newC g sim b hp⟩
  · cases hb
    cases rx with | cons r1 r2 =>
    cases r2
    cases r1 with | loc l =>
    split at g
    · rename_i h
      obtain ⟨xs, q1, r⟩ := sim.lst h
      exact call_list_of pins s σ H _ us Q I ru ⟨_, _, rfl, .inl (SqL.of q1), fun p hp => G.newC g sim r hp⟩
    · rename_i h
      obtain ⟨xs, q1, r⟩ := sim.dct h
      exact call_list_dK (hc rfl) pins s σ H _ us Q I ru ⟨_, _, rfl, q1, fun p hp => G.newC g sim r.keys hp⟩
    · exact g.elim
  · cases hb
    cases rx with | cons r1 r2 =>
    cases r2
    cases r1 with | p r =>
    cases r
    exact call_int1 pins s σ H _ us Q I ru (.inl ⟨_, rfl, G.okp g sim (.int _)⟩)
  · cases hb
    cases rx with | cons r1 r2 =>
    cases r2
    cases r1 with | p r =>
    cases r
    exact call_int1 pins s σ H _ us Q I ru (.inr ⟨_, rfl, G.okp g sim (.int _)⟩)
  · cases hb
    cases rx with | cons r1 r2 =>
    cases r2
    cases r1 with | p r =>
    cases r
    split at g
    · rename_i c
      exact call_str_int pins s σ H _ us Q I ru ⟨_, rfl, c, G.okp g sim (.str _)⟩
    · exact g.elim
  · cases hb
    cases rx with | cons r1 r2 =>
    cases r2
    cases r1 with | loc l =>
    split at g
    · rename_i kvs h
      obtain ⟨xs, q1, r⟩ := sim.dct h
      refine call_dictD pins s σ H _ us Q I ru ⟨_, _, rfl, .inl q1, fun p hp => ?_⟩
      obtain ⟨s2, x2⟩ := sim.new (o := .dK xs) (c := .dct _) hp ⟨xs, upd_same, r.keep (Keep.fresh _ hp)⟩
      have z : RelQ X.K (upd H p (.dK xs)) (put ρ S.length p) (S ++ [Cell.dct kvs]).length (.loc S.length) (.ref (put ρ S.length p S.length)) := .loc (by simp)
      rw [put_same] at z
      exact g _ _ x2 s2 _ z
    · exact g.elim
/-! ### isinstance -/
def tyId : Ty → String
  | .tup => "tuple" | .lst => "list" | .str => "str" | .int => "int" | .bool => "bool"
theorem isi_ok {t : Ty} {px : PV} {x : V} {us : List Value} {Q : Bool → Hp → Prop} (I : Inv X pins σ H s) (sim : Sim X.K ρ S H) (rx : RelQ X.K H ρ S.length px x) (ru : Vals [x, .ty (tyId t)] us)
    (g : G X.K W CV σ ρ S H (isiV t px S) (fun b _ _ H' => Q b H')) : wpAny (model X.prog X.w) X.A (call (.builtin "isinstance") us) (EP X pins σ fun z H1 => ∃ k, z = .bl k ∧ Q k H1) X.xe s := by
  have go : ∀ {n : String} {b : Bool}, TyX X.K H x (.type n) → kitB n (tyId t) = some b → Q b H → wpAny (model X.prog X.w) X.A (call (.builtin "isinstance") us) (EP X pins σ fun z H1 => ∃ k, z = .bl k ∧ Q k H1) X.xe s :=
    fun {n b} ty e q => call_isi pins s σ H _ us _ I ru ⟨_, _, _, _, b, rfl, .ty _, ty, kit_ty e, _, rfl, q⟩
  have tt : ∀ {a : Addr} {ys : List V}, SqT X.K H a ys → TyX X.K H (.ref a) (.type "tuple") := by
    intro a ys h
    rcases h with (h | ⟨o, h⟩) | ⟨o, its, n, h, c, _⟩
    · exact .base (.tup h)
    · exact .fTuple h
    · exact .kTuple h c
  have tl : ∀ {a : Addr} {ys : List V}, FrzL X.K H a ys → TyX X.K H (.ref a) (.type "list") := by
    intro a ys h
    rcases h with ⟨o, h⟩ | ⟨o, its, n, h, c, _⟩
    · exact .base (.frz h)
    · exact .kList h c
  cases rx with
  | p r =>
    cases r with
    | non => cases t <;> exact go (.base .non) (by decide +kernel) (G.okb g sim)
    | bl b => cases t <;> exact go (.base (.bl b)) (by decide +kernel) (G.okb g sim)
    | int i => cases t <;> exact go (.base (.int i)) (by decide +kernel) (G.okb g sim)
    | str z => cases t <;> exact go (.base (.str z)) (by decide +kernel) (G.okb g sim)
    | lst a b => cases t <;> exact go (tl a) (by decide +kernel) (G.okb g sim)
    | tup a b => cases t <;> exact go (tt a) (by decide +kernel) (G.okb g sim)
  | mt a b => cases t <;> exact go (tt a) (by decide +kernel) (G.okb g sim)
  | exc _ => cases t <;> exact g.elim
  | @loc l hl =>
    have e : S[l]? = some S[l] := List.getElem?_eq_getElem hl
    cases q : S[l] with
    | lst ds =>
      rw [q] at e
      obtain ⟨xs, q1, r1⟩ := sim.lst e
      cases t <;> (simp only [isiV, e] at g; exact go (.base (.lst q1)) (by decide +kernel) (G.okb g sim))
    | dct ds =>
      rw [q] at e
      obtain ⟨xs, q1, r1⟩ := sim.dct e
      cases t <;> (simp only [isiV, e] at g; exact go (.base (.dK q1)) (by decide +kernel) (G.okb g sim))
end
end Kp

set_option Elab.async false
set_option linter.all false
set_option maxRecDepth 100000
set_option maxHeartbeats 4000000
set_option autoImplicit false
/-! K5: the text's forms and the small language: the relation. -/
namespace Kp
open PySem PySem.Spec PyProof.Rows L2

/-- what a text's names mean -/
structure TC where
  N : List Str
  fn : Str → Option Nat
  cst : Str → Option P
  cls : Str → Option Nat
  fre : Str → Bool
  hot : Bool
  exm : Nat → Nat → Option Bool
  ncl : Nat
  hfn : Nat → Bool
  isx : Str → Nat → Option Bool
def TC.heat (C : TC) : TC := { C with hot := true }
def yesL (C : TC) (k : Nat) : List Nat := (List.range C.ncl).filter fun c => C.exm c k == some true
def noL (C : TC) (k : Nat) : List Nat := (List.range C.ncl).filter fun c => C.exm c k == some false
/-- the classes whose instances are of one of these, of none -/
def yesX (C : TC) (xs : List Str) : List Nat := (List.range C.ncl).filter fun c => xs.all (fun x => (C.isx x c).isSome) && xs.any fun x => C.isx x c == some true
def noX (C : TC) (xs : List Str) : List Nat := (List.range C.ncl).filter fun c => xs.all fun x => C.isx x c == some false
def visB (sc : Scope) (x : Str) : Bool := match sc.names.lookup x with
  | some .local => true
  | some .cell => true
  | some .free => true
  | _ => false
def locB (sc : Scope) (x : Str) : Bool := match sc.names.lookup x with
  | some .local => true
  | some .cell => true
  | _ => false
def glB (sc : Scope) (x : Str) : Bool := match sc.names.lookup x with
  | some .globalImplicit => true
  | _ => false
def nst : Expr → Bool
  | .Starred _ _ => false
  | _ => true
def baseB : Expr → Bool
  | .Call _ [] [] _ => false
  | _ => true
def isSl : Expr → Bool
  | .Slice _ _ none _ => true
  | _ => false
def isLc : Expr → Bool
  | .ListComp _ _ _ _ => true
  | .SetComp _ _ _ _ => true
  | .DictComp _ _ _ _ _ => true
  | _ => false
def isSet : Expr → Bool
  | .Set _ _ _ => true
  | _ => false
def isTup : Expr → Bool
  | .Tuple _ _ _ => true
  | _ => false
def plE : Expr → Bool
  | .UnaryOp _ _ _ => false
  | .BoolOp _ _ _ => false
  | .IfExp _ _ _ _ => false
  | .Compare _ _ _ _ => false
  | _ => true
def dbg (x : Str) : Bool := !(x == ("__debug__" : Str)) && !(x == ("__classdict__" : Str)) && !decide (x = ("__name__" : Str))
def arB : Bi → Nat → Bool
  | .max2, 2 => true
  | .min2, 2 => true
  | .max1, 1 => true
  | .max2, _ => false
  | .min2, _ => false
  | .max1, _ => false
  | _, _ => true
def mtArg : Mt → Nat
  | .append => 1 | .get2 => 2 | .pop0 => 0 | .reverse => 0 | .join => 1 | .index => 1 | .count => 1 | .insert => 2
def mtNm : Mt → Str
  | .append => "append" | .get2 => "get" | .pop0 => "pop" | .reverse => "reverse" | .index => "index" | .count => "count" | .insert => "insert" | .join => "join"
/-- names of the module -/
inductive TrNs : Scope → List Expr → List Str → Prop
  | nil {sc : Scope} : TrNs sc [] []
  | cons {sc : Scope} {x : Str} {p : Pos} {es : List Expr} {xs : List Str} : glB sc x = true → dbg x = true → TrNs sc es xs → TrNs sc (.Name x p :: es) (x :: xs)
mutual
inductive TrE (C : TC) : Scope → Expr → Ex → Prop
  | v {sc : Scope} {i : Nat} {x : Str} {pos : Pos} : C.N[i]? = some x → visB sc x = true → dbg x = true → TrE C sc (.Name x pos) (.v i)
  | int {sc : Scope} {i : Int} {j : Nat} {pos : Pos} : TrE C sc (.Constant (.int i) j pos) (.c (.int i))
  | bl {sc : Scope} {i : Bool} {j : Nat} {pos : Pos} : TrE C sc (.Constant (.bool i) j pos) (.c (.bool i))
  | non {sc : Scope} {j : Nat} {pos : Pos} : TrE C sc (.Constant .none j pos) (.c .none)
  | str {sc : Scope} {i : Str} {j : Nat} {pos : Pos} : TrE C sc (.Constant (.str i) j pos) (.c (.str i))
  | glob {sc : Scope} {x : Str} {k : P} {pos : Pos} : glB sc x = true → dbg x = true → C.cst x = some k → TrE C sc (.Name x pos) (.c k)
  | bin {sc : Scope} {o : Bop} {a b : Expr} {x y : Ex} {pos : Pos} : TrE C sc a x → TrE C sc b y → TrE C sc (.BinOp a (opOf o) b pos) (.bin o x y)
  | cmp {sc : Scope} {o : Cop} {a b : Expr} {x y : Ex} {pos : Pos} : TrE C sc a x → TrE C sc b y → isSet b = false → TrE C sc (.Compare a [copOf o] [b] pos) (.cmp o x y)
  | neg {sc : Scope} {a : Expr} {x : Ex} {pos : Pos} : TrE C sc a x → TrE C sc (.UnaryOp .USub a pos) (.neg x)
  | not' {sc : Scope} {a : Expr} {x : Ex} {pos : Pos} : TrE C sc a x → TrE C sc (.UnaryOp .Not a pos) (.not' x)
  | ife {sc : Scope} {t a b : Expr} {w x y : Ex} {pos : Pos} : TrE C sc t w → TrE C sc a x → TrE C sc b y → TrE C sc (.IfExp t a b pos) (.ife w x y)
  | and' {sc : Scope} {a b : Expr} {r : List Expr} {m : Ex} {pos : Pos} : TrB C sc .And (a :: b :: r) m → TrE C sc (.BoolOp .And (a :: b :: r) pos) m
  | or' {sc : Scope} {a b : Expr} {r : List Expr} {m : Ex} {pos : Pos} : TrB C sc .Or (a :: b :: r) m → TrE C sc (.BoolOp .Or (a :: b :: r) pos) m
  | tup {sc : Scope} {es : List Expr} {ms : Exs} {k : Nat} {pos : Pos} : TrEs C sc es ms → es.length ≤ 1000 → TrE C sc (.Tuple es k pos) (.tup ms)
  | lst {sc : Scope} {es : List Expr} {ms : Exs} {pos : Pos} : TrEs C sc es ms → TrE C sc (.List es pos) (.lst ms)
  | dct0 {sc : Scope} {pos : Pos} : TrE C sc (.Dict [] [] pos) (.dct [] .nil)
  | dct {sc : Scope} {keys : List (Option Expr)} {k₀ : Option Expr} {vals : List Expr} {ks : List Str} {ms : Exs} {pos : Pos} : TrD C sc (k₀ :: keys) vals ks ms → (k₀ :: keys).length ≤ 15 → TrE C sc (.Dict (k₀ :: keys) vals pos) (.dct ks ms)
  | ix {sc : Scope} {a b : Expr} {x y : Ex} {pos : Pos} : TrE C sc a x → TrE C sc b y → isSl b = false → TrE C sc (.Subscript a b pos) (.ix x y)
  | sl {sc : Scope} {a : Expr} {lo hi : Option Expr} {x : Ex} {l h : Oe} {p2 pos : Pos} : TrE C sc a x → TrO C sc lo l → TrO C sc hi h → TrE C sc (.Subscript a (.Slice lo hi none p2) pos) (.sl x l h)
  | rev {sc : Scope} {a : Expr} {x : Ex} {k : Nat} {p1 p2 p3 pos : Pos} : TrE C sc a x → TrE C sc (.Subscript a (.Slice none none (some (.UnaryOp .USub (.Constant (.int 1) k p1) p2)) p3) pos) (.rev x)
  | call {sc : Scope} {f : Str} {i : Nat} {e : Expr} {es : List Expr} {m : Ex} {ms : Exs} {p pos : Pos} : (C.hot && !C.hfn i) = false → glB sc f = true → dbg f = true → C.fn f = some i → TrEs C sc (e :: es) (.cons m ms) → TrE C sc (.Call (.Name f p) (e :: es) [] pos) (.call i (.cons m ms))
  | call0 {sc : Scope} {f : Str} {i : Nat} {p pos : Pos} : (C.hot && !C.hfn i) = false → glB sc f = true → dbg f = true → C.fn f = some i → TrE C sc (.Call (.Name f p) [] [] pos) (.call i .nil)
  | bi {sc : Scope} {b : Bi} {id : String} {e : Expr} {es : List Expr} {m : Ex} {ms : Exs} {p pos : Pos} : (C.hot && !hotBi b) = false → biId b = some id → arB b (e :: es).length = true → glB sc (id : Str) = true → C.fre (id : Str) = true → TrEs C sc (e :: es) (.cons m ms) → TrE C sc (.Call (.Name (id : Str) p) (e :: es) [] pos) (.bi b (.cons m ms))
  | bt {sc : Scope} {b : Bi} {id : String} {e : Expr} {es : List Expr} {m : Ex} {ms : Exs} {p pos : Pos} : (C.hot && !hotBi b) = false → biTy b = some id → glB sc (id : Str) = true → C.fre (id : Str) = true → TrEs C sc (e :: es) (.cons m ms) → TrE C sc (.Call (.Name (id : Str) p) (e :: es) [] pos) (.bi b (.cons m ms))
  | mth {sc : Scope} {mt : Mt} {o : Expr} {es : List Expr} {x : Ex} {ms : Exs} {apos cpos : Pos} : TrE C sc o x → TrEs C sc es ms → es.length = mtArg mt → mtArg mt < 20 → baseB o = true → (apos.endLine == cpos.line) = true → TrE C sc (.Call (.Attribute o (mtNm mt) apos) es [] cpos) (.mth mt x ms)
  | mxd {sc : Scope} {a d : Expr} {x y : Ex} {p kp pos : Pos} : C.hot = false → glB sc ("max" : Str) = true → C.fre ("max" : Str) = true → TrE C sc a x → TrE C sc d y → TrE C sc (.Call (.Name ("max" : Str) p) [a] [⟨some ("default" : Str), d, kp⟩] pos) (.bi .maxd (.cons x (.cons y .nil)))
  | isi {sc : Scope} {t : Ty} {a : Expr} {x : Ex} {p p2 pos : Pos} : glB sc ("isinstance" : Str) = true → C.fre ("isinstance" : Str) = true → glB sc (tyId t : Str) = true → C.fre (tyId t : Str) = true → TrE C sc a x →
      TrE C sc (.Call (.Name ("isinstance" : Str) p) [a, .Name (tyId t : Str) p2] [] pos) (.isi x t)
  | isx {sc : Scope} {x : Str} {a : Expr} {m : Ex} {p p2 pos : Pos} : glB sc ("isinstance" : Str) = true → C.fre ("isinstance" : Str) = true → TrE C sc a m → glB sc x = true → dbg x = true →
      TrE C sc (.Call (.Name ("isinstance" : Str) p) [a, .Name x p2] [] pos) (.isx m (yesX C [x]) (noX C [x]))
  | isxT {sc : Scope} {xs : List Str} {es : List Expr} {a : Expr} {m : Ex} {k : Nat} {p p2 pos : Pos} : glB sc ("isinstance" : Str) = true → C.fre ("isinstance" : Str) = true → TrE C sc a m → TrNs sc es xs → es.length ≤ 1000 → xs.isEmpty = false →
      TrE C sc (.Call (.Name ("isinstance" : Str) p) [a, .Tuple es k p2] [] pos) (.isx m (yesX C xs) (noX C xs))
  | comp {sc sc' : Scope} {tgx : Str} {tp : Pos} {i : Nat} {iter elt : Expr} {ifs : List Expr} {it : Ix} {tst : Oe} {e : Ex} {pos : Pos} : C.hot = false → TrI C sc (.Name tgx tp) iter it → blkC C.N sc sc' [(tgx, i)] = true → locB sc' tgx = true → C.N[i]? = some tgx →
      TrC C sc' ifs tst → TrE C sc' elt e → TrE C sc (.ListComp elt [⟨.Name tgx tp, iter, ifs, 0⟩] sc' pos) (.comp i it tst e)
inductive TrB (C : TC) : Scope → PySem.BoolOp → List Expr → Ex → Prop
  | one {sc : Scope} {op : PySem.BoolOp} {a : Expr} {x : Ex} : TrE C sc a x → TrB C sc op [a] x
  | and' {sc : Scope} {a b : Expr} {r : List Expr} {x y : Ex} : TrE C sc a x → TrB C sc .And (b :: r) y → TrB C sc .And (a :: b :: r) (.and' x y)
  | or' {sc : Scope} {a b : Expr} {r : List Expr} {x y : Ex} : TrE C sc a x → TrB C sc .Or (b :: r) y → TrB C sc .Or (a :: b :: r) (.or' x y)
inductive TrEs (C : TC) : Scope → List Expr → Exs → Prop
  | nil {sc : Scope} : TrEs C sc [] .nil
  | cons {sc : Scope} {e : Expr} {es : List Expr} {m : Ex} {ms : Exs} : TrE C sc e m → TrEs C sc es ms → TrEs C sc (e :: es) (.cons m ms)
inductive TrO (C : TC) : Scope → Option Expr → Oe → Prop
  | non {sc : Scope} : TrO C sc none .non
  | one {sc : Scope} {e : Expr} {m : Ex} : TrE C sc e m → TrO C sc (some e) (.one m)
inductive TrC (C : TC) : Scope → List Expr → Oe → Prop
  | non {sc : Scope} : TrC C sc [] .non
  | one {sc : Scope} {e : Expr} {m : Ex} : TrE C sc e m → TrC C sc [e] (.one m)
inductive TrD (C : TC) : Scope → List (Option Expr) → List Expr → List Str → Exs → Prop
  | nil {sc : Scope} : TrD C sc [] [] [] .nil
  | cons {sc : Scope} {k : Str} {j : Nat} {p : Pos} {e : Expr} {keys : List (Option Expr)} {es : List Expr} {ks : List Str} {m : Ex} {ms : Exs} : TrE C sc e m → TrD C sc keys es ks ms →
      TrD C sc (some (.Constant (.str k) j p) :: keys) (e :: es) (k :: ks) (.cons m ms)
inductive TrI (C : TC) : Scope → Expr → Expr → Ix → Prop
  | val {sc : Scope} {tg e : Expr} {m : Ex} : TrE C sc e m → isSet e = false → TrI C sc tg e (.val m)
  | rng1 {sc : Scope} {tg a : Expr} {x : Ex} {p pos : Pos} : glB sc ("range" : Str) = true → C.fre ("range" : Str) = true → TrE C sc a x → TrI C sc tg (.Call (.Name ("range" : Str) p) [a] [] pos) (.rng1 x)
  | rng2 {sc : Scope} {tg a b : Expr} {x y : Ex} {p pos : Pos} : glB sc ("range" : Str) = true → C.fre ("range" : Str) = true → TrE C sc a x → TrE C sc b y → TrI C sc tg (.Call (.Name ("range" : Str) p) [a, b] [] pos) (.rng2 x y)
  | zip {sc : Scope} {elts : List Expr} {kk : Nat} {tpos : Pos} {a b : Expr} {x y : Ex} {p pos : Pos} : glB sc ("zip" : Str) = true → C.fre ("zip" : Str) = true → TrE C sc a x → TrE C sc b y → TrI C sc (.Tuple elts kk tpos) (.Call (.Name ("zip" : Str) p) [a, b] [] pos) (.zip x y)
  | revR {sc : Scope} {tg a : Expr} {x : Ex} {p p2 pos pos2 : Pos} : glB sc ("range" : Str) = true → C.fre ("range" : Str) = true → glB sc ("reversed" : Str) = true → C.fre ("reversed" : Str) = true → TrE C sc a x →
      TrI C sc tg (.Call (.Name ("reversed" : Str) p) [.Call (.Name ("range" : Str) p2) [a] [] pos2] [] pos) (.revR x)
  | revL {sc : Scope} {tg a : Expr} {x : Ex} {p pos : Pos} : glB sc ("reversed" : Str) = true → C.fre ("reversed" : Str) = true → TrE C sc a x → TrI C sc tg (.Call (.Name ("reversed" : Str) p) [a] [] pos) (.revL x)
end
/-! targets, statements -/
inductive TrGs (C : TC) : Scope → List Expr → List Nat → Prop
  | nil {sc : Scope} : TrGs C sc [] []
  | cons {sc : Scope} {x : Str} {p : Pos} {i : Nat} {es : List Expr} {is : List Nat} : C.N[i]? = some x → locB sc x = true → TrGs C sc es is → TrGs C sc (.Name x p :: es) (i :: is)
inductive TrG (C : TC) : Scope → Expr → Tg → Prop
  | nm {sc : Scope} {x : Str} {p : Pos} {i : Nat} : C.N[i]? = some x → locB sc x = true → TrG C sc (.Name x p) (.nm i)
  | tp {sc : Scope} {es : List Expr} {k : Nat} {pos : Pos} {is : List Nat} : C.hot = false → TrGs C sc es is → TrG C sc (.Tuple es k pos) (.tp is)
/-- y = [..] by its own road -/
def swB (sc : Scope) (y : Str) (py : Pos) : Expr → Bool
  | .ListComp _ _ sc' pos => (match sc.names.lookup y with
    | some .local => true
    | _ => false) && (py.line == pos.line) && !(sc'.names.any fun (n, k) => n == y && (k == .local || k == .cell))
  | _ => false
mutual
inductive TrS : TC → Scope → Stmt → Sm → Prop
  | asgN {C : TC} {sc : Scope} {x : Str} {p pos : Pos} {i : Nat} {e : Expr} {m : Ex} : C.N[i]? = some x → locB sc x = true → TrE C sc e m → isLc e = false → TrS C sc (.Assign [.Name x p] e pos) (.asg (.nm i) m)
  | asgC {C : TC} {sc : Scope} {x : Str} {p pos : Pos} {i : Nat} {e : Expr} {m : Ex} : C.N[i]? = some x → locB sc x = true → TrE C sc e m → swB sc x p e = true → TrS C sc (.Assign [.Name x p] e pos) (.asg (.nm i) m)
  | asgD {C : TC} {sc : Scope} {x : Str} {p pos : Pos} {i : Nat} {e : Expr} {m : Ex} : C.N[i]? = some x → locB sc x = true → TrE C sc e m → sc.names.lookup x = some .cell → TrS C sc (.Assign [.Name x p] e pos) (.asg (.nm i) m)
  | asgT {C : TC} {sc : Scope} {es : List Expr} {k : Nat} {p pos : Pos} {is : List Nat} {e : Expr} {m : Ex} : C.hot = false → TrGs C sc es is → TrE C sc e m → isLc e = false → isTup e = false → TrS C sc (.Assign [.Tuple es k p] e pos) (.asg (.tp is) m)
  | setI {C : TC} {sc : Scope} {o i e : Expr} {p pos : Pos} {x y z : Ex} : TrE C sc o x → TrE C sc i y → TrE C sc e z → isLc e = false → isSl i = false → TrS C sc (.Assign [.Subscript o i p] e pos) (.setI x y z)
  | ex {C : TC} {sc : Scope} {e : Expr} {pos : Pos} {m : Ex} : TrE C sc e m → isLc e = false → TrS C sc (.Expr e pos) (.ex m)
  | ret {C : TC} {sc : Scope} {e : Expr} {pos : Pos} {m : Ex} : TrE C sc e m → TrS C sc (.Return (some e) pos) (.ret m)
  | retN {C : TC} {sc : Scope} {pos : Pos} : TrS C sc (.Return none pos) .retN
  | ift {C : TC} {sc : Scope} {t : Expr} {a b : List Stmt} {pos : Pos} {m : Ex} {x y : Sms} : TrE C sc t m → TrSs C sc a x → TrSs C sc b y → TrS C sc (.If t a b pos) (.ift m x y)
  | for' {C : TC} {sc : Scope} {tg it : Expr} {b : List Stmt} {pos : Pos} {t : Tg} {m : Ix} {x : Sms} : C.hot = false → TrG C sc tg t → TrI C sc tg it m → TrSs C sc b x → TrS C sc (.For tg it b [] pos) (.for' t m x)
  | while {C : TC} {sc : Scope} {t : Expr} {b : List Stmt} {pos : Pos} {m : Ex} {x : Sms} : C.hot = false → TrE C sc t m → TrSs C sc b x → TrS C sc (.While t b [] pos) (.while m x)
  | raise {C : TC} {sc : Scope} {x m : Str} {c : Nat} {p p2 p3 pos : Pos} {j : Nat} : C.hot = false → glB sc x = true → dbg x = true → C.cls x = some c → TrS C sc (.Raise (some (.Call (.Name x p) [.Constant (.str m) j p2] [] p3)) none pos) (.raise c)
  | cont {C : TC} {sc : Scope} {pos : Pos} : TrS C sc (.Continue pos) .cont
  | pass {C : TC} {sc : Scope} {pos : Pos} : TrS C sc (.Pass pos) .pass
  | tryM {C : TC} {sc : Scope} {b : List Stmt} {h₀ : ExceptHandler} {hs : List ExceptHandler} {pos : Pos} {m : Sms} {h : Hs} : C.hot = false → TrSs C sc b m → TrHs C sc (h₀ :: hs) h → TrS C sc (.Try b (h₀ :: hs) [] [] pos) (.tryM m h)
  | tryA {C : TC} {sc : Scope} {b suite : List Stmt} {b₀ : Stmt} {x n : Str} {np pos' pos : Pos} {k i : Nat} {m h : Sms} : C.hot = false → TrSs C sc b m → glB sc x = true → dbg x = true → C.cls x = some k → C.N[i]? = some n → sc.names.lookup n = some .local → TrSs C.heat sc (b₀ :: suite) h →
      TrS C sc (.Try b [.ExceptHandler (some (.Name x np)) (some n) (b₀ :: suite) pos'] [] [] pos) (.tryA m (yesL C k) (noL C k) i h)
inductive TrHs : TC → Scope → List ExceptHandler → Hs → Prop
  | nil {C : TC} {sc : Scope} : TrHs C sc [] .nil
  | cons {C : TC} {sc : Scope} {x : Str} {b₀ : Stmt} {suite : List Stmt} {np pos' : Pos} {hs : List ExceptHandler} {k : Nat} {m : Sms} {h : Hs} : glB sc x = true → dbg x = true → C.cls x = some k → TrSs C.heat sc (b₀ :: suite) m → TrHs C sc hs h →
      TrHs C sc (.ExceptHandler (some (.Name x np)) none (b₀ :: suite) pos' :: hs) (.cons (yesL C k) (noL C k) m h)
inductive TrSs : TC → Scope → List Stmt → Sms → Prop
  | nil {C : TC} {sc : Scope} : TrSs C sc [] .nil
  | cons {C : TC} {sc : Scope} {s : Stmt} {r : List Stmt} {x : Sm} {y : Sms} : TrS C sc s x → TrSs C sc r y → TrSs C sc (s :: r) (.cons x y)
end
section
variable {C : TC} {sc : Scope} {e : Expr} {m : Ex}
theorem TrE.nst (h : TrE C sc e m) : nst e = true := by cases h <;> rfl
theorem starE {e : Expr} {es : List Expr} {env : Env} (h : nst e = true) : starEach (e :: es) env = (false, eval e env) :: starEach es env := by
  cases e <;> first | rfl | cases h
theorem TrEs.plain {es : List Expr} {ms : Exs} {env : Env} {pos : Pos} (h : TrEs C sc es ms) : (backTo pos (starEach es env)).any (·.1) = false := by
  induction es generalizing ms with
  | nil => rfl
  | cons e es ih =>
    cases h with
    | cons a b =>
      rw [starE a.nst]
      show (false || (backTo pos (starEach es env)).any (·.1)) = false
      rw [ih b]; rfl
theorem isTrue_pl {e : Expr} {env : Env} (h : plE e = true) (whole : Sem Value) : isTrue e env whole = (do let v ← whole; standAt e.pos; holding [v] (truthy v)) := by
  cases e <;> first | rfl | cases h
theorem behind_ns {op : CmpOp} {b : Expr} (h : isSet b = false) : behindInMarks op b = false := by
  cases b <;> first | rfl | cases h
theorem sub_ns {b : Expr} (h : isSl b = false) (o i : Value) : subscripted b false o i = operate [o, i] (getItem o i) := by
  cases b <;> first | rfl | skip
  rename_i lo hi st p
  cases st with
  | none => cases h
  | some x => rfl
theorem folded_ns {e : Expr} {env : Env} (h : isSet e = false) (x : Value) : foldedSetIterable e env x = pure x := by
  cases e <;> first | rfl | cases h
theorem sw_nl {e : Expr} {t : Option Expr} {l : Nat} {env : Env} (h : isLc e = false) : swapsWith e t l env = pure false := by
  cases e <;> first | rfl | cases h
theorem base_nb {o : Expr} {m : Str} {env : Env} {w : Sem Value} (h : baseB o = true) : attributeBase o m env w = w := by
  cases o <;> first | rfl | skip
  rename_i f as ks p
  cases as with
  | nil =>
    cases ks with
    | nil => cases h
    | cons _ _ => cases f <;> rfl
  | cons _ _ => cases f <;> rfl
end
end Kp

set_option Elab.async false
set_option linter.all false
set_option maxRecDepth 100000
set_option maxHeartbeats 4000000
set_option autoImplicit false
/-! K6: what the evaluator says, the model does: expressions. -/
namespace Kp
open PySem PySem.Spec PyProof.Rows L2

/-- what a def promises: the evaluator's answer -/
def spE [Xc] (K : PySem.W.Frag) (CV : Nat → Value) (cl : Cl) (f : Nat) : Sp := fun vs H Q E => ∃ ρ S ps, Sim K ρ S H ∧ RelQs K H ρ S.length ps vs ∧ G K (fun c d _ H => E c d H) CV [] ρ S H (cl f ps S) (QV K Q)
/-- the exception that is handled, as a value -/
def xcP (CV : Nat → Value) (p : Addr × Obj) : Xc := ⟨fun c a => a = p.1 ∧ p.2.cls = CV c ∧ p.2.dict = none⟩
/-- what a def promises where an exception is handled -/
structure FnX (P : Program) (w : World) (K : PySem.W.Frag) (mg : Str → Option Value) (base : Heap) (CX : CXT) (k : Nat) (f : Addr) (fd : FuncData) (ps : List Str) (sp : Addr × Obj → Sp) : Prop where
  len : ∀ p vs H Q E, sp p vs H Q E → vs.length = ps.length
  run : ∀ (p : Addr × Obj) (A : Around) (outer : List Env) (s : Shared) (H : Hp) (args : Args) (us : List Value) (vs : List V) (Q : VK) (E : XK), L2H.RoomH k A → L2H.Hot1 A p → L2H.PinOk outer H s p →
    Env0 P w K mg base A outer s H → BindsTo s fd args (ps.zip us) → Vals vs us → sp p vs H Q E → codeAny (model P w) A (.call (.ref f) args) (CR CX outer P w H s Q E) s
/-- what a name of a class means -/
def IsxOk (K : PySem.W.Frag) (CV : Nat → Value) (mg : Str → Option Value) (x : Str) (c : Nat) (b : Bool) : Prop :=
  ∃ (D : Addr) (v : V) (cv : Value), CV c = .ref D ∧ L2.ExcC K D ∧ PySem.W.kitOne K (.ref D) cv = some b ∧ RelV v cv ∧ (∀ u, RelV v u → u = cv) ∧ (mg x = some cv ∨ mg x = none ∧ bootBuiltins x = some cv)
structure Ok [Xc] (C : TC) (CV : Nat → Value) (cl : Cl) (n : Nat) (sc : Scope) (X : Cx) (W : WX) : Prop where
  N : X.N = C.N
  nd : C.N.Nodup
  calm : C.hot = false → X.calm = true
  room : C.hot = false → Room n X.A
  hu : X.A.units + 64 < cLine
  takes : L2N.Takes X W
  vis : ∀ x, visB sc x = true → Vis X.env.scope x
  glo : ∀ x, glB sc x = true → Gl X x
  loc : ∀ x, locB sc x = true → Loc X.env.scope x ∧ (X.fn x = true ∨ X.env.scope.names.lookup x = some .local)
  lo : ∀ x, sc.names.lookup x = some .local → X.env.scope.names.lookup x = some .local
  ce : ∀ x, sc.names.lookup x = some .cell → X.env.scope.names.lookup x = some .cell
  cf : ∀ x, (sc.names.lookup x = some .cell ∨ sc.names.lookup x = some .free) → (X.env.scope.names.lookup x = some .cell ∨ X.env.scope.names.lookup x = some .free)
  fre : ∀ x, C.fre x = true → X.mg x = none
  cst : ∀ x k, C.cst x = some k → ∃ v u, X.mg x = some u ∧ RelV v u ∧ ∀ H, RelP X.K H k v
  fn : ∀ x f, C.fn x = some f → ∃ a fd ps, X.mg x = some (.ref a) ∧ PySem.W.keepIn X.K (.ref a) = true ∧ Binds X.K fd ps [] ∧ FnOk X.prog X.w X.K X.mg X.base (L2N.CX X.prog X.w) n a fd ps (@spE xc0 X.K CV cl f)
  cold : C.hot = false → ∀ c a, ¬ Xc.at' c a
  warm : C.hot = true → ∃ p : Addr × Obj, L2H.Hot1 X.A p ∧ p ∈ X.pn ∧ ‹Xc› = xcP CV p
  roomH : C.hot = true → L2H.RoomH n X.A
  fnH : ∀ x f, C.fn x = some f → C.hfn f = true → ∃ a fd ps, X.mg x = some (.ref a) ∧ PySem.W.keepIn X.K (.ref a) = true ∧ Binds X.K fd ps [] ∧ FnX X.prog X.w X.K X.mg X.base (L2N.CX X.prog X.w) n a fd ps (fun p => @spE (xcP CV p) X.K CV cl f)
  isx : ∀ x c b, C.isx x c = some b → IsxOk X.K CV X.mg x c b
section
variable [Xc] {C : TC} {CV : Nat → Value} {cl : Cl} {n : Nat} {sc : Scope} {X : Cx} {W : WX}
theorem Ok.hu1 (O : Ok C CV cl n sc X W) : X.A.units + 1 < cLine := by have := O.hu; omega
theorem dbg1 {x : Str} (h : dbg x = true) : (x == ("__debug__" : Str)) = false := by
  unfold dbg at h; simp only [Bool.and_eq_true, Bool.not_eq_true'] at h; exact h.1.1
theorem dbg2 {x : Str} (h : dbg x = true) : (x == ("__classdict__" : Str)) = false := by
  unfold dbg at h; simp only [Bool.and_eq_true, Bool.not_eq_true'] at h; exact h.1.2
theorem lookup_rel {scope : Scope} {env : Env} {x : Str} {k : NameKind} (hk : k ≠ .free) (h : scope.names.lookup x = some k) : (relabel scope env).names.lookup x = some k :=
  lookup_relS_keep (sc := env.scope) hk h
theorem lookup_relf {env : Env} : ∀ {names : List (Str × NameKind)} {x : Str}, names.lookup x = some .free →
    (names.map fun (n, k) => if (k == NameKind.free && env.scope.kind == .function && env.scope.names.lookup n == some .cell) then (n, NameKind.cell) else (n, k)).lookup x = some .cell ∨
    (names.map fun (n, k) => if (k == NameKind.free && env.scope.kind == .function && env.scope.names.lookup n == some .cell) then (n, NameKind.cell) else (n, k)).lookup x = some .free
  | [], _, h => by simp at h
  | (n, k₀) :: r, x, h => by
    have ih := @lookup_relf env r x
    show List.lookup x ((if (k₀ == NameKind.free && env.scope.kind == .function && env.scope.names.lookup n == some .cell) = true then (n, NameKind.cell) else (n, k₀)) :: (r.map _)) = _ ∨ List.lookup x ((if (k₀ == NameKind.free && env.scope.kind == .function && env.scope.names.lookup n == some .cell) = true then (n, NameKind.cell) else (n, k₀)) :: (r.map _)) = _
    cases hx : x == n with
    | true =>
      simp only [List.lookup_cons, hx] at h
      cases h
      split
      · left; simp only [List.lookup_cons, hx]
      · right; simp only [List.lookup_cons, hx]
    | false =>
      simp only [List.lookup_cons, hx] at h
      split <;> simp only [List.lookup_cons, hx] <;> exact ih h
theorem lookup_cases {x : Str} {sc : Scope} (h : visB sc x = true) : sc.names.lookup x = some .local ∨ sc.names.lookup x = some .cell ∨ sc.names.lookup x = some .free := by
  unfold visB at h
  split at h <;> first | (rename_i e; first | exact .inl e | exact .inr (.inl e) | exact .inr (.inr e)) | cases h
theorem lookup_loc {x : Str} {sc : Scope} (h : locB sc x = true) : sc.names.lookup x = some .local ∨ sc.names.lookup x = some .cell := by
  unfold locB at h
  split at h <;> first | (rename_i e; first | exact .inl e | exact .inr e) | cases h
theorem lookup_gl {x : Str} {sc : Scope} (h : glB sc x = true) : sc.names.lookup x = some .globalImplicit := by
  unfold glB at h
  split at h
  · assumption
  · cases h
/-- in a comprehension's block -/
theorem Ok.blk {sc' : Scope} (O : Ok C CV cl n sc X W) (hh : C.hot = false) (s : Shared) (H : Hp) (D : Addr) (cl' : List (Str × Addr)) (fp : List Addr) :
    Ok C CV cl n sc' (X.blk s H sc' (compEnvC sc' cl' D X.env) fp) (fun _ _ _ _ => False) where
  N := O.N
  nd := O.nd
  calm := O.calm
  room := O.room
  hu := O.hu
  takes := fun u s' ⟨_, _, _, _, _, _, _, _, _, _, _, _, _, _, _, _, w⟩ => w.elim
  vis := fun x h => by
    rcases lookup_cases h with e | e | e
    · exact .inl (lookup_rel (by decide) e)
    · exact .inr (.inl (lookup_rel (by decide) e))
    · rcases lookup_relf (env := X.env) e with z | z
      · exact .inr (.inl z)
      · exact .inr (.inr z)
  glo := fun x h => lookup_rel (env := X.env) (by decide) (lookup_gl h)
  loc := fun x h => by
    rcases lookup_loc h with e | e
    · have z := lookup_rel (env := X.env) (by decide) e
      exact ⟨.inl z, .inr z⟩
    · exact ⟨.inr (lookup_rel (env := X.env) (by decide) e), .inl (by show (sc'.names.lookup x == some .cell) = true; rw [e]; rfl)⟩
  lo := fun x h => lookup_rel (env := X.env) (by decide) h
  ce := fun x h => lookup_rel (env := X.env) (by decide) h
  cf := fun x h => by
    rcases h with e | e
    · exact .inl (lookup_rel (env := X.env) (by decide) e)
    · exact lookup_relf (env := X.env) e
  fre := O.fre
  cst := O.cst
  fn := O.fn
  cold := O.cold
  warm := fun h => by rw [hh] at h; cases h
  roomH := fun h => by rw [hh] at h; cases h
  fnH := O.fnH
  isx := O.isx
theorem Ok.bok {sc' : Scope} {own : List (Str × Nat)} (O : Ok C CV cl n sc X W) (h : blkC C.N sc sc' own = true) : BlkOk X.N X.env.scope sc' own := by
  have b := blkOk_by h
  rw [O.N]
  exact ⟨b.kind, b.uniq, b.ix, fun y hy e => O.cf _ (b.free y hy e), b.own⟩

/-! ### evaluating one after another -/
variable {pins : List (Addr × Obj)} {s : Shared} {σ : L2.St} {H : Hp} {en : En} {ρ : Nat → Addr} {S : Sto}
structure At (X : Cx) (pins : List (Addr × Obj)) (σ : L2.St) (ρ : Nat → Addr) (S : Sto) (H : Hp) (s : Shared) (ρ' : Nat → Addr) (S' : Sto) (H' : Hp) : Prop where
  inv : Inv X pins σ H' s
  ext : Ext ρ S H ρ' S' H'
  sim : Sim X.K ρ' S' H'
abbrev Sound (C : TC) (CV : Nat → Value) (cl : Cl) (n : Nat) (X : Cx) (W : WX) (e : Expr) (m : Ex) : Prop := PE X e (tE X.K W CV (ev cl m)) ∧ PT X e (tT X.K W CV (evT cl m))
theorem ev1 {α : Type} {e : Expr} {f : En → Sto → R PV} {k : PV → Sto → R α} {QQ : α → (Nat → Addr) → Sto → Hp → Prop} (h : PE X e (tE X.K W CV f)) (I : Inv X pins σ H s) (he : EnvOk X.K H ρ S.length en σ) (sim : Sim X.K ρ S H)
    (g : G X.K W CV σ ρ S H ((f en S).bind k) QQ) :
    wpAny (model X.prog X.w) X.A (eval e X.env) (fun v s1 => ∃ x H1 ρ1 S1 px, At X pins σ ρ S H s1 ρ1 S1 H1 ∧ RelV x v ∧ RelQ X.K H1 ρ1 S1.length px x ∧ G X.K W CV σ ρ1 S1 H1 (k px S1) QQ) X.xe s :=
  thn (h.run pins s σ H (fun x H1 => ∃ ρ1 S1 px, Ext ρ S H ρ1 S1 H1 ∧ Sim X.K ρ1 S1 H1 ∧ RelQ X.K H1 ρ1 S1.length px x ∧ G X.K W CV σ ρ1 S1 H1 (k px S1) QQ) I
    ⟨en, ρ, S, he, sim, (G.bind g).imp fun px ρ1 S1 H1 e1 s1 g1 x rx => ⟨ρ1, S1, px, e1, s1, rx, g1⟩⟩) fun v s1 ⟨x, H1, I1, r1, ρ1, S1, px, e1, sm1, rx, g1⟩ => ⟨x, H1, ρ1, S1, px, ⟨I1, e1, sm1⟩, r1, rx, g1⟩
theorem evT1 {α : Type} {e : Expr} {f : En → Sto → R Bool} {k : Bool → Sto → R α} {QQ : α → (Nat → Addr) → Sto → Hp → Prop} (h : PT X e (tT X.K W CV f)) (I : Inv X pins σ H s) (he : EnvOk X.K H ρ S.length en σ) (sim : Sim X.K ρ S H)
    (g : G X.K W CV σ ρ S H ((f en S).bind k) QQ) :
    wpAny (model X.prog X.w) X.A (isTrue e X.env (eval e X.env)) (fun b s1 => ∃ H1 ρ1 S1, At X pins σ ρ S H s1 ρ1 S1 H1 ∧ G X.K W CV σ ρ1 S1 H1 (k b S1) QQ) X.xe s :=
  thn (h.run pins s σ H (fun b H1 => ∃ ρ1 S1, Ext ρ S H ρ1 S1 H1 ∧ Sim X.K ρ1 S1 H1 ∧ G X.K W CV σ ρ1 S1 H1 (k b S1) QQ) I
    ⟨en, ρ, S, he, sim, (G.bind g).imp fun b ρ1 S1 H1 e1 s1 g1 => ⟨ρ1, S1, e1, s1, g1⟩⟩) fun v s1 ⟨H1, I1, ρ1, S1, e1, sm1, g1⟩ => ⟨H1, ρ1, S1, ⟨I1, e1, sm1⟩, g1⟩
theorem evs1 {α : Type} {es : List Expr} {f : En → Sto → R (List PV)} {k : List PV → Sto → R α} {QQ : α → (Nat → Addr) → Sto → Hp → Prop} {pos : Pos} (h : PA X es (tA X.K W CV f)) (I : Inv X pins σ H s) (he : EnvOk X.K H ρ S.length en σ) (sim : Sim X.K ρ S H)
    (g : G X.K W CV σ ρ S H ((f en S).bind k) QQ) :
    wpAny (model X.prog X.w) X.A (spliced (backTo pos (starEach es X.env))) (fun us s1 => ∃ xs H1 ρ1 S1 ps, At X pins σ ρ S H s1 ρ1 S1 H1 ∧ Vals xs us ∧ RelQs X.K H1 ρ1 S1.length ps xs ∧ G X.K W CV σ ρ1 S1 H1 (k ps S1) QQ) X.xe s :=
  thn (h.run pos pins s σ H (fun xs H1 => ∃ ρ1 S1 ps, Ext ρ S H ρ1 S1 H1 ∧ Sim X.K ρ1 S1 H1 ∧ RelQs X.K H1 ρ1 S1.length ps xs ∧ G X.K W CV σ ρ1 S1 H1 (k ps S1) QQ) I
    ⟨en, ρ, S, he, sim, (G.bind g).imp fun ps ρ1 S1 H1 e1 s1 g1 xs rx => ⟨ρ1, S1, ps, e1, s1, rx, g1⟩⟩) fun us s1 ⟨xs, H1, I1, r1, ρ1, S1, ps, e1, sm1, rx, g1⟩ => ⟨xs, H1, ρ1, S1, ps, ⟨I1, e1, sm1⟩, r1, rx, g1⟩
/-- an end that gives a value -/
theorem fin {Q : VK} {px : PV} {x : V} {u : Value} (I : Inv X pins σ H s) (sim : Sim X.K ρ S H) (r : RelV x u) (rx : RelQ X.K H ρ S.length px x) (g : G X.K W CV σ ρ S H (R.ok px S) (QV X.K Q)) : EP X pins σ Q u s := ⟨x, H, I, r, g ρ H Ext.refl sim x rx⟩
theorem finB {Q : VK} {b : Bool} (I : Inv X pins σ H s) (sim : Sim X.K ρ S H) (g : G X.K W CV σ ρ S H (okP (.bool b) S) (QV X.K Q)) : EP X pins σ Q (.bool b) s := ⟨.bl b, H, I, rfl, G.okp g sim (.bl b)⟩
theorem R.bind_assoc {α β γ : Type} (r : R α) (f : α → Sto → R β) (k : β → Sto → R γ) : (r.bind f).bind k = r.bind fun a S => (f a S).bind k := by cases r <;> rfl
theorem okb_tru (b : Bool) (S : Sto) : (okP (.bool b) S).bind truV = .ok b S := rfl
def plM : Ex → Bool
  | .cmp _ _ _ => false
  | .and' _ _ => false
  | .or' _ _ => false
  | .not' _ => false
  | _ => true
theorem evT_plain (cl : Cl) (m : Ex) (en : En) (S : Sto) (h : plM m = true) : evT cl m en S = .no ∨ evT cl m en S = (ev cl m en S).bind truV := by
  cases m with
  | v i =>
    right
    simp only [ev, evT]
    split <;> rfl
  | c k => right; simp only [ev, evT]; rfl
  | bin o a b => right; simp only [ev, evT, R.bind_assoc]
  | ix a i => right; simp only [ev, evT, R.bind_assoc]
  | call f es => right; simp only [ev, evT, R.bind_assoc]
  | bi b es => right; simp only [ev, evT, R.bind_assoc]
  | mth m o es =>
    right
    simp only [ev, evT, R.bind_assoc]
    congr 1
    funext x S
    split
    · simp only [R.bind_assoc]
    · rfl
  | isi a t => right; simp only [ev, evT, R.bind_assoc, okb_tru]
  | isx a ys ns => right; simp only [ev, evT, R.bind_assoc, okb_tru]
  | cmp _ _ _ => cases h
  | and' _ _ => cases h
  | or' _ _ => cases h
  | not' _ => cases h
  | _ => left; simp only [evT]
theorem pt_plain {e : Expr} {m : Ex} (h : PE X e (tE X.K W CV (ev cl m))) (hp : plE e = true) (hm : plM m = true) : PT X e (tT X.K W CV (evT cl m)) := by
  refine ⟨fun pins s σ H Q I hq => ?_⟩
  obtain ⟨en, ρ, S, he, sim, g⟩ := hq
  rcases evT_plain cl m en S hm with z | z
  · rw [z] at g; exact g.elim
  · rw [z] at g
    refine isTrue_plain (thn (ev1 h I he sim g) fun v s1 ⟨x, H1, ρ1, S1, px, A1, rv, rx, g1⟩ => ?_) (isTrue_pl hp _)
    exact tru_ok pins s1 σ H1 x v Q A1.inv rv (tru_okV A1.sim rx g1)
theorem wp_imp {Q Q' : Value → Shared → Prop} {t : Sem Value} {E : Value → Shared → Prop} {A : Around} {M : Model} {s : Shared} (h : wpAny M A t Q E s) (f : ∀ v s, Q v s → Q' v s) : wpAny M A t Q' E s := thn h f
theorem subTail_of {prog : Program} {w : World} {A : Around} {E : Value → Shared → Prop} {s₂ : Shared} {value slice : Expr} {o i : Value} {T id : String} {Q : Value → Shared → Prop}
    (hl : typeLookup (.type T) "__getitem__" = pure (some (.builtin id))) (hs : subscripted slice false o i = operate [o, i] (getItem o i)) (hT : s₂.TypeIs o T) (h₂ : wpAny (model prog w) A (getItem o i) Q E s₂) :
    wpAny (model prog w) A (subscriptTail value slice o i) Q E s₂ := by
  unfold subscriptTail
  refine wpAny_bind ?_
  rw [getitemInPython_of_ne hT.not_modules]
  refine wpAny_bind (wpAny_specialOf hT hl ?_)
  have fin : wpAny (model prog w) A (subscripted slice false o i) (fun r s₃ => wpAny (model prog w) A (letTemporaryGo value o r >>= fun _ => pure r) Q E s₃) E s₂ := by
    rw [hs]
    exact wpAny_operating (wpAny_mono h₂ (fun r s₃ h₃ => wpAny_bind (wpAny_letTemporaryGo (wpAny_pure h₃))) fun _ _ x => x)
  first
    | exact wpAny_pure (wpAny_bind fin)
    | exact wpAny_bind (wpAny_pure (wpAny_bind fin))
    | exact wpAny_bind fin
theorem ixtail_ok {Q : VK} {a b : Expr} {px pi : PV} {x i : V} {v u : Value} (hu : X.A.units + 1 < cLine) (hs : isSl b = false) (I : Inv X pins σ H s) (sim : Sim X.K ρ S H) (rx : RelQ X.K H ρ S.length px x) (ri : RelQ X.K H ρ S.length pi i) (rv : RelV x v) (ru : RelV i u)
    (g : G X.K W CV σ ρ S H (ixV px pi S) (QV X.K Q)) : wpAny (model X.prog X.w) X.A (subscriptTail a b v u) (EP X pins σ Q) X.xe s := by
  have other : (∀ l kvs, px = .loc l → S[l]? ≠ some (.dct kvs)) → wpAny (model X.prog X.w) X.A (subscriptTail a b v u) (EP X pins σ Q) X.xe s := fun nd =>
    ix_seq a b pins s σ H x i v u Q I rv ru (ix_ok sim rx ri nd g) (sub_ns hs _ _)
  cases px with
  | p d => exact other fun l kvs e => by cases e
  | mt d => exact other fun l kvs e => by cases e
  | exc d => exact other fun l kvs e => by cases e
  | loc l =>
    by_cases h : ∃ kvs, S[l]? = some (.dct kvs)
    · obtain ⟨kvs, h⟩ := h
      obtain ⟨a', v', ex, dg, q⟩ := dix_ok sim rx ri h g
      subst ex
      obtain rfl : v = Value.ref a' := rv
      exact subTail_of PySem.F.slot_dict_getitem.lookup (sub_ns hs _ _) (dict_typeIs I dg) (d_getItem hu I dg ru fun w' s3 I3 rw' => ⟨v', H, I3, rw', q⟩)
    · exact other fun l' kvs e q => h ⟨kvs, by cases e; exact q⟩
theorem revStr (n : Nat) : Builtin.Str.strSliceIndices none none (-1) n = (List.range n).reverse := by
  have e : Builtin.Str.strSliceIndices none none (-1) n = sliceRange ((n : Int) - 1) (-1) (-1) := by
    unfold Builtin.Str.strSliceIndices
    simp
  rw [e, PySem.W.krv_sliceRange, PySem.W.krv_range]
theorem rev_ok {e : Expr} {f : En → Sto → R PV} {k : Nat} {p1 p2 p3 pos : Pos} {Q : VK} (ha : PE X e (tE X.K W CV f)) (I : Inv X pins σ H s) (he : EnvOk X.K H ρ S.length en σ) (sim : Sim X.K ρ S H)
    (g : G X.K W CV σ ρ S H ((f en S).bind fun x S => revV x S) (QV X.K Q)) :
    wpAny (model X.prog X.w) X.A (eval (.Subscript e (.Slice none none (some (.UnaryOp .USub (.Constant (.int 1) k p1) p2)) p3) pos) X.env) (EP X pins σ Q) X.xe s := by
  refine Subscript_ (thn (ev1 ha I he sim g) fun v s1 ⟨x, H1, ρ1, S1, px, A1, r1, rx, g1⟩ => ?_)
  have hst : PO X (some (.UnaryOp .USub (.Constant (.int 1) k p1) p2)) (tPart (tUn (rU fun i => .int (-i)) (tC (.int 1)))) := po_some (pe_un un_neg pe_int)
  refine wpAny_Slice (thn (po_none.run pins s1 σ H1 (fun o H2 => o = none ∧ H2 = H1) A1.inv ⟨rfl, rfl⟩) fun vl s2 ⟨l, H2, I2, pl, el, e2⟩ => ?_)
  subst el e2
  refine thn (po_none.run pins s2 σ H2 (fun o H3 => o = none ∧ H3 = H2) I2 ⟨rfl, rfl⟩) fun vu s3 ⟨u, H3, I3, pu, eu, e3⟩ => ?_
  subst eu e3
  refine thn (hst.run pins s3 σ H3 (fun o H4 => o = some (-1) ∧ H4 = H3) I3 ⟨1, rfl, -1, rfl, rfl, rfl⟩) fun vs s4 ⟨o, H4, I4, ps, eo, e4⟩ => ?_
  subst eo e4
  have I5 : Inv X pins σ H4 { s4 with heap := s4.heap.push { cls := .type "slice", data := .fields #[vl, vu, vs] } } := I4.kept (t' := s4.toks) fun b ob q => Heap.get?_push_of_some _ q
  show wpAny (model X.prog X.w) X.A (subscriptTail e (.Slice none none (some (.UnaryOp .USub (.Constant (.int 1) k p1) p2)) p3) v (.ref s4.heap.objs.size)) (EP X pins σ Q) X.xe { s4 with heap := s4.heap.push { cls := .type "slice", data := .fields #[vl, vu, vs] } }
  unfold revV at g1
  split at g1
  · cases rx with | loc l =>
    split at g1
    · rename_i h
      obtain ⟨xs, q1, rs⟩ := A1.sim.lst h
      cases r1
      obtain ⟨its, r, ht, hz⟩ := I5.list (SqL.of q1)
      have hlen := r.length
      refine tail_any (ops := [.ref (ρ1 _), .ref s4.heap.objs.size]) ht.isList.typeIs (PySem.slot_list_getitem.lookup) ?_ (by with_unfolding_all rfl)
      refine wpAny_getItem_list_slice ht.isList (Heap.IsSliceOf.new _ vl vu vs) pl pu ps (by decide) ?_ (by rw [List.size_toArray]; omega)
      rw [PySem.W.krv_pick]
      refine ⟨.ref _, _, I5.laid (t' := s4.toks) (o := .lst xs.reverse) (fun b ob q => Heap.get?_push_of_some _ q) (Nat.le_refl _) ?_, rfl, G.newC g1 A1.sim rs.reverse (I5.hok.fresh (Nat.le_refl _))⟩
      exact ⟨by rw [List.length_reverse]; exact hz, _, 0, r.reverse, Heap.get?_push_size _ rfl⟩
    · exact g1.elim
  · cases rx with | p rp =>
    cases rp
    split at g1
    · rename_i z c
      obtain ⟨t, rfl⟩ := r1
      obtain ⟨l', el, ep⟩ := IsPart.raw pl
      obtain ⟨u', eu, ep2⟩ := IsPart.raw pu
      obtain ⟨w', ew, ep3⟩ := IsPart.raw ps
      subst el eu ew
      refine tail_any (ops := [.str z t, .ref s4.heap.objs.size]) (typeIs_str _ _ _) PySem.F.slot_str_getitem.lookup ?_ (by with_unfolding_all rfl)
      refine wpAny_getItem_str_slice (l := l') (u := u') (st := w') ⟨_, Heap.get?_push_size _ rfl, rfl, rfl⟩ (by rw [ep3]; rfl) ?_
      have hidx : slicePicked z l' u' w' = (List.range z.length).reverse := by
        unfold slicePicked
        rw [ep, ep2, ep3]
        exact revStr _
      have hfm : (slicePicked z l' u' w').filterMap (z.cps[·]?) = z.cps.toList.reverse := by
        rw [hidx, List.filterMap_reverse]
        exact congrArg List.reverse (PySem.W.krv_all z.cps)
      unfold sliceMade
      rw [hfm, ep3]
      rw [if_neg (by intro q; cases (Bool.and_eq_true_iff.mp q).1)]
      have q := G.okp g1 A1.sim (.str _)
      exact ⟨by show (z.cps.toList.reverse.toArray).size ≤ sizeLine; rw [List.size_toArray, List.length_reverse, Array.length_toList]; exact sz c, .str _, H4, I5.tok _, ⟨_, rfl⟩, q⟩
    · exact g1.elim
  · exact g1.elim
end
end Kp

set_option Elab.async false
set_option linter.all false
set_option maxRecDepth 100000
set_option maxHeartbeats 4000000
set_option autoImplicit false
/-! K7: what is walked. -/
namespace Kp
open PySem PySem.Spec PyProof.Rows L2
variable [Xc]

def SameH (H H' : Hp) : Prop := ∀ b o, H b = some o → H' b = some o
theorem SameH.keep {H H' : Hp} (h : SameH H H') : Keep H H' := fun b o q _ => h b o q
theorem Sim.same {K : PySem.W.Frag} {ρ : Nat → Addr} {S : Sto} {H H' : Hp} (sim : Sim K ρ S H) (h : SameH H H') : Sim K ρ S H' :=
  ⟨fun i c e => by
    obtain ⟨o, q, _⟩ := (sim.cell i c e).some
    exact (sim.cell i c e).keep h.keep ((h _ _ q).trans q.symm), sim.inj⟩
/-- the iterator walks these items, as long as the lists that are watched stand -/
def Wk (K : PySem.W.Frag) (ρ0 : Nat → Addr) (S0 : Sto) (H0 : Hp) (J : It) (its : List PV) (w : Wt) : Prop :=
  ∀ ρ' S' H', Ext ρ0 S0 H0 ρ' S' H' → Sim K ρ' S' H' → wtOk w S' = true → ∀ i,
    (∀ v, its[i]? = some v → J.go i H' ∧ ∀ x H'', J.yld i H' x H'' → SameH H' H'' ∧ RelQ K H'' ρ' S'.length v x) ∧ (its.length ≤ i → J.stop i H')
def tI (K : PySem.W.Frag) (W : WX) (CV : Nat → Value) (f : En → Sto → R Its') : TI := fun σ H R => ∃ en ρ S, EnvOk K H ρ S.length en σ ∧ Sim K ρ S H ∧ G K W CV σ ρ S H (f en S) (fun q ρ' S' H' => ∀ J, Wk K ρ' S' H' J q.1 q.2 → R J H')
theorem pdBs_all : ∀ {xs ys : List P}, ys.length = xs.length → (ys.zip xs).all (fun q => pdB q.1 q.2) = true → ys = xs
  | [], [], _, _ => rfl
  | x :: xs, y :: ys, h, h2 => by
    simp only [List.zip_cons_cons, List.all_cons, Bool.and_eq_true] at h2
    rw [pdB_eq y x h2.1, pdBs_all (by simpa using h) h2.2]
theorem wtOk_cons {i : Nat} {xs : List P} {r : Wt} {S : Sto} (h : wtOk ((i, xs) :: r) S = true) : S[i]? = some (.lst xs) ∧ wtOk r S = true := by
  unfold wtOk at h
  rw [Bool.and_eq_true] at h
  refine ⟨?_, h.2⟩
  have h1 := h.1
  split at h1
  · rename_i ys e
    simp only [Bool.and_eq_true, decide_eq_true_eq] at h1
    rw [pdBs_all h1.1 h1.2] at e
    exact e
  · cases h1
theorem pdB_refl : ∀ (a : P), PyData.canLay0 a = true → pdB a a = true := by
  intro a h
  exact (show ∀ a : P, a.canLay0 = true → pdB a a = true from by
    intro a
    exact pdr a) a h
where
  pdr : ∀ a : P, a.canLay0 = true → pdB a a = true
  | .none, _ => rfl
  | .bool b, _ => by simp [pdB]
  | .int b, _ => by simp [pdB]
  | .str b, _ => by simp [pdB]
  | .list xs, h => by simp only [pdB]; exact pdrs xs h
  | .tuple xs, h => by simp only [pdB]; exact pdrs xs h
  | .dict _, h => nomatch h
  pdrs : ∀ xs : List P, PyData.canLayAll0 xs = true → pdBs xs xs = true
  | [], _ => rfl
  | x :: xs, h => by
    have h' : x.canLay0 = true ∧ PyData.canLayAll0 xs = true := by simpa [PyData.canLayAll0] using h
    simp only [pdBs]
    rw [pdr x h'.1, pdrs xs h'.2]; rfl
section
variable {K : PySem.W.Frag} {ρ0 : Nat → Addr} {S0 : Sto} {H0 : Hp}
theorem map_p_get {ds : List P} {i : Nat} {v : PV} (h : (ds.map PV.p)[i]? = some v) : ∃ d, ds[i]? = some d ∧ v = .p d := by
  rw [List.getElem?_map] at h
  cases q : ds[i]? with
  | none => rw [q] at h; cases h
  | some d => rw [q] at h; cases h; exact ⟨d, rfl, rfl⟩
/-- a list of the store -/
theorem wk_list {l : Nat} {ds : List P} (hl : l < S0.length) : Wk K ρ0 S0 H0 (Itl K (ρ0 l)) (ds.map .p) [(l, ds)] := by
  intro ρ' S' H' e sim w i
  obtain ⟨hs, _⟩ := wtOk_cons w
  obtain ⟨xs, q, r⟩ := sim.cell l _ hs
  rw [e.same l hl] at q
  refine ⟨fun v hv => ?_, fun hi => ⟨xs, SqL.of q, by rw [← r.length]; simpa using hi⟩⟩
  obtain ⟨d, hd, rfl⟩ := map_p_get hv
  obtain ⟨x, hx, rx⟩ := r.get hd
  refine ⟨⟨xs, x, SqL.of q, hx⟩, fun y H'' hy => ?_⟩
  obtain ⟨e1, hy⟩ := hy
  subst e1
  have := hy xs (SqL.of q)
  rw [hx] at this; cases this
  exact ⟨fun _ _ z => z, .p rx⟩
theorem wk_frz {a : Addr} {ds : List P} {xs : List V} (h : FrzL K H0 a xs) (r0 : RelPs K H0 ds xs) : Wk K ρ0 S0 H0 (Itl K a) (ds.map .p) [] := by
  intro ρ' S' H' e sim w i
  have q := (h.keep e.keep).sq
  have r := r0.keep e.keep
  refine ⟨fun v hv => ?_, fun hi => ⟨xs, q, by rw [← r.length]; simpa using hi⟩⟩
  obtain ⟨d, hd, rfl⟩ := map_p_get hv
  obtain ⟨x, hx, rx⟩ := r.get hd
  refine ⟨⟨xs, x, q, hx⟩, fun y H'' hy => ?_⟩
  obtain ⟨e1, hy⟩ := hy
  subst e1
  have := hy xs q
  rw [hx] at this; cases this
  exact ⟨fun _ _ z => z, .p rx⟩
theorem wk_tup {a : Addr} {ds : List P} {xs : List V} (h : SqT K H0 a xs) (r0 : RelPs K H0 ds xs) : Wk K ρ0 S0 H0 (Itt K a) (ds.map .p) [] := by
  intro ρ' S' H' e sim w i
  have q := sqT_keep e.keep h
  have r := r0.keep e.keep
  refine ⟨fun v hv => ?_, fun hi => ⟨xs, q, by rw [← r.length]; simpa using hi⟩⟩
  obtain ⟨d, hd, rfl⟩ := map_p_get hv
  obtain ⟨x, hx, rx⟩ := r.get hd
  refine ⟨⟨xs, x, q, hx⟩, fun y H'' hy => ?_⟩
  obtain ⟨e1, hy⟩ := hy
  subst e1
  have := hy xs q
  rw [hx] at this; cases this
  exact ⟨fun _ _ z => z, .p rx⟩
theorem wk_str {z : Str} : Wk K ρ0 S0 H0 (Its z) (z.cps.toList.map fun c => .p (.str ⟨#[c]⟩)) [] := by
  intro ρ' S' H' e sim w i
  refine ⟨fun v hv => ?_, fun hi => (by simpa using hi : z.cps.size ≤ i)⟩
  rw [List.getElem?_map] at hv
  cases q : z.cps.toList[i]? with
  | none => rw [q] at hv; cases hv
  | some c =>
    rw [q] at hv; cases hv
    have q' : z.cps[i]? = some c := by simpa using q
    refine ⟨(by have := getE_lt q; simpa using this : i < z.cps.size), fun y H'' hy => ?_⟩
    obtain ⟨e1, c', hc, hv⟩ := hy
    subst e1 hv
    rw [q'] at hc; cases hc
    exact ⟨fun _ _ z => z, .p (.str _)⟩
theorem wk_rng {lo : Int} {n : Nat} : Wk K ρ0 S0 H0 (Itr lo n) ((List.range n).map fun (k : Nat) => .p (.int (lo + k))) [] := by
  intro ρ' S' H' e sim w i
  refine ⟨fun v hv => ?_, fun hi => (by simpa using hi : n ≤ i)⟩
  rw [List.getElem?_map] at hv
  cases q : (List.range n)[i]? with
  | none => rw [q] at hv; cases hv
  | some k =>
    rw [q] at hv; cases hv
    have lt : i < n := by have := getE_lt q; simpa using this
    rw [List.getElem?_range lt] at q
    cases q
    refine ⟨lt, fun y H'' hy => ?_⟩
    obtain ⟨e1, e2⟩ := hy
    subst e1 e2
    exact ⟨fun _ _ z => z, .p (.int _)⟩
theorem wk_rngR {n : Nat} {lo : Int} (hlo : lo = (0 : Int) + (n : Int) - 1) : Wk K ρ0 S0 H0 (Itc lo (-1) n) (((List.range n).map fun (k : Nat) => PV.p (.int ((0 : Int) + k))).reverse) [] := by
  intro ρ' S' H' e sim w i
  refine ⟨fun v hv => ?_, fun hi => (by simpa using hi : n ≤ i)⟩
  have lt : i < n := by have := getE_lt hv; simpa using this
  rw [List.getElem?_reverse (by simpa using lt), List.getElem?_map] at hv
  simp only [List.length_map, List.length_range] at hv
  rw [List.getElem?_range (by omega)] at hv
  cases hv
  refine ⟨lt, fun y H'' hy => ?_⟩
  obtain ⟨e1, e2⟩ := hy
  subst e1 e2
  refine ⟨fun _ _ z => z, ?_⟩
  have z : lo + (i : Nat) * (-1) = (0 : Int) + ((n - 1 - i : Nat) : Int) := by omega
  rw [z]
  exact .p (.int _)
theorem wk_revL {l : Nat} {ds : List P} (hl : l < S0.length) {m : Nat} (hm : ds.length = m) : Wk K ρ0 S0 H0 (Itv K (ρ0 l) m) (ds.reverse.map .p) [(l, ds)] := by
  intro ρ' S' H' e sim w i
  subst hm
  obtain ⟨hs, _⟩ := wtOk_cons w
  obtain ⟨xs, q, r⟩ := sim.cell l _ hs
  rw [e.same l hl] at q
  refine ⟨fun v hv => ?_, fun hi => (by simpa using hi : ds.length ≤ i)⟩
  obtain ⟨d, hd, rfl⟩ := map_p_get hv
  have lt : i < ds.length := by have := getE_lt hd; simpa using this
  rw [List.getElem?_reverse lt] at hd
  obtain ⟨x, hx, rx⟩ := r.get hd
  refine ⟨⟨lt, xs, x, SqL.of q, hx⟩, fun y H'' hy => ?_⟩
  obtain ⟨e1, hy⟩ := hy
  subst e1
  have := hy xs (SqL.of q)
  rw [hx] at this; cases this
  exact ⟨fun _ _ z => z, .p rx⟩
theorem wk_revT {a : Addr} {ds : List P} {xs : List V} (h : SqT K H0 a xs) (r0 : RelPs K H0 ds xs) : Wk K ρ0 S0 H0 (RT.ItvT K a xs.length) (ds.reverse.map .p) [] := by
  intro ρ' S' H' e sim w i
  have q := sqT_keep e.keep h
  have r := r0.keep e.keep
  have hm := r.length
  refine ⟨fun v hv => ?_, fun hi => (by rw [← hm]; simpa using hi : xs.length ≤ i)⟩
  obtain ⟨d, hd, rfl⟩ := map_p_get hv
  have lt : i < ds.length := by have := getE_lt hd; simpa using this
  rw [List.getElem?_reverse lt] at hd
  obtain ⟨x, hx, rx⟩ := r.get hd
  rw [hm] at hx
  refine ⟨⟨by omega, xs, x, q, hx⟩, fun y H'' hy => ?_⟩
  obtain ⟨e1, hy⟩ := hy
  subst e1
  have := hy xs q
  rw [hx] at this; cases this
  exact ⟨fun _ _ z => z, .p rx⟩
theorem wk_zip {l m : Nat} {ds es : List P} (hl : l < S0.length) (hm : m < S0.length) (hlen : ds.length = es.length) : Wk K ρ0 S0 H0 (Itz K (ρ0 l) (ρ0 m)) ((ds.zip es).map fun q => .p (.tuple [q.1, q.2])) [(l, ds), (m, es)] := by
  intro ρ' S' H' e sim w i
  obtain ⟨hs, w2⟩ := wtOk_cons w
  obtain ⟨hs2, _⟩ := wtOk_cons w2
  obtain ⟨xs, q, r⟩ := sim.cell l _ hs
  obtain ⟨ys, q2, r2⟩ := sim.cell m _ hs2
  rw [e.same l hl] at q
  rw [e.same m hm] at q2
  refine ⟨fun v hv => ?_, fun hi => ⟨xs, ys, SqL.of q, SqL.of q2, .inl (by rw [← r.length]; simp only [List.length_map, List.length_zip] at hi; omega)⟩⟩
  rw [List.getElem?_map] at hv
  cases qz : (ds.zip es)[i]? with
  | none => rw [qz] at hv; cases hv
  | some p =>
    rw [qz] at hv; cases hv
    obtain ⟨d1, d2⟩ := p
    rw [List.getElem?_zip_eq_some] at qz
    obtain ⟨x, hx, rx⟩ := r.get qz.1
    obtain ⟨y, hy, ry⟩ := r2.get qz.2
    refine ⟨⟨xs, ys, x, y, SqL.of q, SqL.of q2, hx, hy⟩, fun v H'' hv => ?_⟩
    obtain ⟨T, x', y', rfl, hT, rfl, h1, h2⟩ := hv
    have a1 := h1 xs (SqL.of q)
    have a2 := h2 ys (SqL.of q2)
    rw [hx] at a1; cases a1
    rw [hy] at a2; cases a2
    have sh : SameH H' (upd H' T (.tup [x, y])) := fun b o z => by rw [upd_ne (ne_of_none z hT)]; exact z
    exact ⟨sh, .p (.tup (SqT.of upd_same) (.cons (rx.keep sh.keep) (.cons (ry.keep sh.keep) .nil)))⟩
end
section
variable {C : TC} {CV : Nat → Value} {cl : Cl} {n : Nat} {sc : Scope} {X : Cx} {W : WX}
theorem int_of {H : Hp} {ρ : Nat → Addr} {S : Sto} {σ : L2.St} {px : PV} {x : V} {f : Int → R Its'} {Q : Its' → (Nat → Addr) → Sto → Hp → Prop} (rx : RelQ X.K H ρ S.length px x) (g : G X.K W CV σ ρ S H (intR px S f) Q) : ∃ i, x = .int i ∧ G X.K W CV σ ρ S H (f i) Q := by
  unfold intR at g
  split at g
  · cases rx with | p r => cases r; exact ⟨_, rfl, g⟩
  · exact g.elim
theorem rng_of {H : Hp} {ρ : Nat → Addr} {S : Sto} {σ : L2.St} {a b : Int} {Q : Its' → (Nat → Addr) → Sto → Hp → Prop} (g : G X.K W CV σ ρ S H (rngI a b S) Q) (sim : Sim X.K ρ S H) :
    (-(2 ^ 62) ≤ a ∧ a < 2 ^ 62 ∧ -(2 ^ 62) ≤ b ∧ b < 2 ^ 62) ∧ Q ((List.range (b - a).toNat).map fun (k : Nat) => .p (.int (a + k)), []) ρ S H := by
  unfold rngI at g
  split at g
  · rename_i h; exact ⟨h, g ρ H Ext.refl sim⟩
  · exact g.elim
/-- a value that is walked: a list, a tuple, a text -/
theorem pi_val {tg e : Expr} {m : Ex} (O : Ok C CV cl n sc X W) (h : PE X e (tE X.K W CV (ev cl m))) : PI X tg e (tI X.K W CV (evI cl (.val m))) := by
  refine ⟨fun pins s σ H R I hq => ?_⟩
  obtain ⟨en, ρ, S, he, sim, g⟩ := hq
  simp only [evI] at g
  cases hr : ev cl m en S with
  | no => rw [hr] at g; exact g.elim
  | ex c S' =>
    have k : tE X.K W CV (ev cl m) σ H fun _ _ => False := ⟨en, ρ, S, he, sim, by rw [hr] at g ⊢; exact g⟩
    exact thn (h.run pins s σ H _ I k) fun v s1 ⟨_, _, _, _, f⟩ => f.elim
  | ok px S1 =>
    have go : ∀ {J : TE → TI}, (∀ (Q : VK), ((∃ x H1 ρ1, Ext ρ S H ρ1 S1 H1 ∧ Sim X.K ρ1 S1 H1 ∧ RelQ X.K H1 ρ1 S1.length px x ∧ Q x H1) → False) → False) → True := fun _ => trivial
    have base : ∀ (Q : VK), (∀ ρ1 H1 x, Ext ρ S H ρ1 S1 H1 → Sim X.K ρ1 S1 H1 → RelQ X.K H1 ρ1 S1.length px x → Q x H1) → tE X.K W CV (ev cl m) σ H Q := fun Q f =>
      ⟨en, ρ, S, he, sim, by rw [hr]; exact fun ρ1 H1 e1 s1 x rx => f ρ1 H1 x e1 s1 rx⟩
    rw [hr] at g
    have g : G X.K W CV σ ρ S H (valI px S1) (fun q ρ' S' H' => ∀ J, Wk X.K ρ' S' H' J q.1 q.2 → R J H') := g
    unfold valI at g
    split at g
    · split at g
      · rename_i l _ ds hd
        refine (pi_list h).run pins s σ H R I (base _ fun ρ1 H1 x e1 s1 rx => ?_)
        cases rx with | loc hl =>
        obtain ⟨xs, q1, r1⟩ := s1.lst hd
        exact ⟨_, rfl, ⟨xs, SqL.of q1⟩, g ρ1 H1 e1 s1 _ (wk_list hl)⟩
      · exact g.elim
    · refine (pi_tup h).run pins s σ H R I (base _ fun ρ1 H1 x e1 s1 rx => ?_)
      cases rx with | p r =>
      cases r with | tup a b =>
      exact ⟨_, rfl, ⟨_, a⟩, g ρ1 H1 e1 s1 _ (wk_tup a b)⟩
    · refine (pi_list h).run pins s σ H R I (base _ fun ρ1 H1 x e1 s1 rx => ?_)
      cases rx with | p r =>
      cases r with | lst a b =>
      exact ⟨_, rfl, ⟨_, a.sq⟩, g ρ1 H1 e1 s1 _ (wk_frz a b)⟩
    · refine (pi_str h).run pins s σ H R I (base _ fun ρ1 H1 x e1 s1 rx => ?_)
      cases rx with | p r =>
      cases r
      exact ⟨_, rfl, g ρ1 H1 e1 s1 _ wk_str⟩
    · exact g.elim
theorem snd_ns {tg it : Expr} {m : Ix} (ht : TrI C sc tg it m) : isSet it = false := by
  cases ht <;> first | assumption | rfl
section
variable {tg a b : Expr} {x y : Ex} {p p2 pos pos2 : Pos}
theorem pi_r1 (O : Ok C CV cl n sc X W) (hg : glB sc ("range" : Str) = true) (hf : C.fre ("range" : Str) = true) (h : TrE C sc a x) (ih : PE X a (tE X.K W CV (ev cl x))) : PI X tg (.Call (.Name ("range" : Str) p) [a] [] pos) (tI X.K W CV (evI cl (.rng1 x))) := by
  refine ⟨fun pins s σ H R I hq => ?_⟩
  obtain ⟨en, ρ, S, he, sim, g⟩ := hq
  simp only [evI] at g
  refine (pi_range1 (O.glo _ hg) (O.fre _ hf) (pa_cons ih pa_nil (starE h.nst)) (starE h.nst)).run pins s σ H R I ?_
  refine ⟨en, ρ, S, he, sim, (G.bind g).imp fun px ρ1 S1 H1 e1 s1 g1 y ry => ?_⟩
  obtain ⟨i, rfl, g2⟩ := int_of ry g1
  obtain ⟨b, q⟩ := rng_of g2 s1
  refine ⟨i, rfl, b.2.2.1, b.2.2.2, ?_⟩
  have := q _ wk_rng
  simpa using this
theorem pi_r2 (O : Ok C CV cl n sc X W) (hg : glB sc ("range" : Str) = true) (hf : C.fre ("range" : Str) = true) (h : TrE C sc a x) (h2 : TrE C sc b y) (ih : PE X a (tE X.K W CV (ev cl x))) (ih2 : PE X b (tE X.K W CV (ev cl y))) :
    PI X tg (.Call (.Name ("range" : Str) p) [a, b] [] pos) (tI X.K W CV (evI cl (.rng2 x y))) := by
  refine ⟨fun pins s σ H R I hq => ?_⟩
  obtain ⟨en, ρ, S, he, sim, g⟩ := hq
  simp only [evI] at g
  refine (pi_range2 (O.glo _ hg) (O.fre _ hf) (pa_cons ih (pa_cons ih2 pa_nil (starE h2.nst)) (starE h.nst)) (by rw [starE h.nst, starE h2.nst]; rfl) (starE h2.nst)).run pins s σ H R I ?_
  refine ⟨en, ρ, S, he, sim, (G.bind g).imp fun px ρ1 S1 H1 e1 s1 g1 y ry => ?_⟩
  refine ⟨en, ρ1, S1, he.ext e1, s1, (G.bind g1).imp fun py ρ2 S2 H2 e2 s2 g2 z rz => ?_⟩
  obtain ⟨i, rfl, g3⟩ := int_of (ry.ext e2) g2
  obtain ⟨j, rfl, g4⟩ := int_of rz g3
  obtain ⟨b, q⟩ := rng_of g4 s2
  exact ⟨i, j, rfl, b, q _ wk_rng⟩
theorem pi_z {elts : List Expr} {kk : Nat} {tpos : Pos} (O : Ok C CV cl n sc X W) (hg : glB sc ("zip" : Str) = true) (hf : C.fre ("zip" : Str) = true) (h : TrE C sc a x) (h2 : TrE C sc b y) (ih : PE X a (tE X.K W CV (ev cl x))) (ih2 : PE X b (tE X.K W CV (ev cl y))) :
    PI X (.Tuple elts kk tpos) (.Call (.Name ("zip" : Str) p) [a, b] [] pos) (tI X.K W CV (evI cl (.zip x y))) := by
  refine ⟨fun pins s σ H R I hq => ?_⟩
  obtain ⟨en, ρ, S, he, sim, g⟩ := hq
  simp only [evI] at g
  refine (pi_zip (O.glo _ hg) (O.fre _ hf) (pa_cons ih (pa_cons ih2 pa_nil (starE h2.nst)) (starE h.nst)) (starE h.nst) (by rw [starE h2.nst]; rfl)).run pins s σ H R I ?_
  refine ⟨en, ρ, S, he, sim, (G.bind g).imp fun px ρ1 S1 H1 e1 s1 g1 y ry => ?_⟩
  refine ⟨en, ρ1, S1, he.ext e1, s1, (G.bind g1).imp fun py ρ2 S2 H2 e2 s2 g2 z rz => ?_⟩
  have ry2 := ry.ext e2
  unfold zipI at g2
  split at g2
  · cases ry2 with | loc hl => cases rz with | loc hm =>
    split at g2
    · rename_i q1 q2
      split at g2
      · rename_i hlen
        obtain ⟨xs, w1, r1⟩ := s2.lst q1
        obtain ⟨ys, w2, r2⟩ := s2.lst q2
        exact ⟨_, _, xs, ys, rfl, SqL.of w1, SqL.of w2, g2 ρ2 H2 Ext.refl s2 _ (wk_zip hl hm hlen)⟩
      · exact g2.elim
    · exact g2.elim
  · exact g2.elim
theorem pi_rr (O : Ok C CV cl n sc X W) (hg : glB sc ("range" : Str) = true) (hf : C.fre ("range" : Str) = true) (hg2 : glB sc ("reversed" : Str) = true) (hf2 : C.fre ("reversed" : Str) = true) (h : TrE C sc a x) (ih : PE X a (tE X.K W CV (ev cl x))) :
    PI X tg (.Call (.Name ("reversed" : Str) p) [.Call (.Name ("range" : Str) p2) [a] [] pos2] [] pos) (tI X.K W CV (evI cl (.revR x))) := by
  refine ⟨fun pins s σ H R I hq => ?_⟩
  obtain ⟨en, ρ, S, he, sim, g⟩ := hq
  simp only [evI] at g
  refine (pi_revR (O.glo _ hg2) (O.fre _ hf2) (prg_1 (O.glo _ hg) (O.fre _ hf) ih (starE h.nst)) (starE rfl)).run pins s σ H R I ?_
  refine ⟨en, ρ, S, he, sim, (G.bind g).imp fun px ρ1 S1 H1 e1 s1 g1 y ry => ?_⟩
  obtain ⟨i, rfl, g2⟩ := int_of ry (G.bind g1)
  obtain ⟨b, q⟩ := rng_of g2 s1
  refine ⟨i, rfl, b.1, b.2.1, b.2.2.1, b.2.2.2, ?_⟩
  have q2 := q ρ1 H1 Ext.refl s1
  exact q2 _ (wk_rngR rfl)
theorem pi_rl (O : Ok C CV cl n sc X W) (hg : glB sc ("reversed" : Str) = true) (hf : C.fre ("reversed" : Str) = true) (h : TrE C sc a x) (ih : PE X a (tE X.K W CV (ev cl x))) :
    PI X tg (.Call (.Name ("reversed" : Str) p) [a] [] pos) (tI X.K W CV (evI cl (.revL x))) := by
  refine ⟨fun pins s σ H R I hq => ?_⟩
  obtain ⟨en, ρ, S, he, sim, g⟩ := hq
  simp only [evI] at g
  refine (RT.pi_revA (O.glo _ hg) (O.fre _ hf) ih (starE h.nst)).run pins s σ H R I ?_
  refine ⟨en, ρ, S, he, sim, (G.bind g).imp fun px ρ1 S1 H1 e1 s1 g1 y ry => ?_⟩
  unfold revI at g1
  split at g1
  · cases ry with | loc hl =>
    split at g1
    · rename_i q1
      obtain ⟨xs, w1, r1⟩ := s1.lst q1
      exact ⟨_, xs, rfl, .inl ⟨SqL.of w1, g1 ρ1 H1 Ext.refl s1 _ (wk_revL hl r1.length)⟩⟩
    · exact g1.elim
  · cases ry with | p r =>
    cases r with | tup a b =>
    exact ⟨_, _, rfl, .inr ⟨a, g1 ρ1 H1 Ext.refl s1 _ (wk_revT a b)⟩⟩
  · exact g1.elim
end
end
end Kp

set_option Elab.async false
set_option linter.all false
set_option maxRecDepth 100000
set_option maxHeartbeats 8000000
set_option autoImplicit false
/-! K8: expressions: the evaluator and the model. -/
namespace Kp
open PySem PySem.Spec PyProof.Rows L2
variable [Xc]
theorem bi_boot {b : Bi} {id : String} (h : biId b = some id) : bootBuiltins (id : Str) = some (.builtin id) ∧ (id : Str) ≠ "__name__" ∧ ((id : Str) == ("__debug__" : Str)) = false := by
  cases b <;> first | (cases h; done) | (cases h; exact ⟨by decide +kernel, by decide +kernel, by decide +kernel⟩)
theorem bt_boot {b : Bi} {id : String} (h : biTy b = some id) : bootBuiltins (id : Str) = some (.type id) ∧ (id : Str) ≠ "__name__" ∧ ((id : Str) == ("__debug__" : Str)) = false := by
  cases b <;> first | (cases h; done) | (cases h; exact ⟨by decide +kernel, by decide +kernel, by decide +kernel⟩)
theorem ty_boot (t : Ty) : bootBuiltins (tyId t : Str) = some (.type (tyId t)) ∧ (tyId t : Str) ≠ "__name__" ∧ ((tyId t : Str) == ("__debug__" : Str)) = false := by
  cases t <;> exact ⟨by decide +kernel, by decide +kernel, by decide +kernel⟩
section
variable {C : TC} {CV : Nat → Value} {cl : Cl} {n : Nat} {sc : Scope} {X : Cx} {W : WX}
variable {pins : List (Addr × Obj)} {s : Shared} {σ : L2.St} {H : Hp} {en : En} {ρ : Nat → Addr} {S : Sto}
def mtId (x : PV) : Mt → Option String
  | .append => some "list.append" | .pop0 => some "list.pop" | .reverse => some "list.reverse" | .get2 => some "dict.get" | .join => some "str.join" | .index => (match x with | .loc _ => some "list.index" | _ => some "str.index") | .count => some "list.count" | .insert => some "list.insert"
theorem strsP_rel {K : PySem.W.Frag} {H : Hp} : ∀ {ds : List P} {ys : List Str} {xs : List V}, strsP ds = some ys → RelPs K H ds xs → xs = ys.map V.str
  | [], ys, xs, h, r => by cases h; cases r; rfl
  | d :: ds, ys, xs, h, r => by
    cases r with | cons r1 r2 =>
    cases d <;> first | (cases h; done) | skip
    rename_i s
    unfold strsP at h
    cases q : strsP ds with
    | none => rw [q] at h; cases h
    | some ms =>
      rw [q] at h
      cases h
      cases r1
      rw [strsP_rel q r2]
      rfl
theorem blsP_rel {K : PySem.W.Frag} {H : Hp} : ∀ {ds : List P} {ys : List Bool} {xs : List V}, blsP ds = some ys → RelPs K H ds xs → xs = ys.map V.bl
  | [], ys, xs, h, r => by cases h; cases r; rfl
  | d :: ds, ys, xs, h, r => by
    cases r with | cons r1 r2 =>
    cases d <;> first | (cases h; done) | skip
    rename_i s
    unfold blsP at h
    cases q : blsP ds with
    | none => rw [q] at h; cases h
    | some ms =>
      rw [q] at h
      cases h
      cases r1
      rw [blsP_rel q r2]
      rfl
/-- truths counted -/
def isB (b : Bool) : Value → Bool
  | .bool c => c == b
  | _ => false
theorem isB_all {b : Bool} : ∀ {bs : List Bool} {us : List Value}, Vals (bs.map V.bl) us → us = bs.map Value.bool
  | [], _, h => by cases h; rfl
  | c :: bs, _, h => by
    cases h with | cons h1 h2 =>
    cases h1
    rw [isB_all (b := b) h2]; rfl
theorem isB_count {b : Bool} : ∀ bs : List Bool, (bs.map Value.bool).countP (isB b) = bs.count b
  | [] => rfl
  | c :: bs => by
    rw [List.map_cons, List.countP_cons, List.count_cons, isB_count bs]
    rfl
theorem mt_bcount : MtR X "list.count" (fun x xs H Q => ∃ (p : Addr) (bs : List Bool) (b : Bool), x = .ref p ∧ xs = [.bl b] ∧ SqL X.K H p (bs.map V.bl) ∧ Q (.int (bs.count b : Nat)) H) := by
  intro pins s σ H x xs v us Q I rx rxs ⟨p, bs, b, e1, e2, hs, q⟩
  subst e1 e2
  cases rx
  obtain ⟨u, rfl, ru⟩ := rxs.one
  cases ru
  obtain ⟨its, rv, ⟨⟨k1, k2, k3, k4⟩, n, ho, hk1, hk2, hk3⟩, _⟩ := I.list hs
  dsimp only at hk1 hk3
  subst hk1 hk3
  have el := isB_all (b := b) rv
  have eq : its.toArray.toList.countP (isB b) = bs.count b := by
    show its.countP _ = _
    rw [el, isB_count]
  have meets := SeqAt.list_countAt p its.toArray n k2 k4 (.bool b) (isB b)
  refine call_meets PySem.F.slot_list_count ⟨_, ho, rfl⟩ PySem.F.entry_list_count (PySem.F.args_list_count_2 _ _) meets ⟨ho, fun y hy => ?_, ?_⟩
  · have hm : y ∈ bs.map Value.bool := by rw [← el]; simpa using hy
    obtain ⟨c, _, rfl⟩ := List.mem_map.mp hm
    exact SeqAt.EqAt.bool_bool c b
  · exact ⟨.int (bs.count b : Nat), H, I.tok _, ⟨s.toks, by rw [← eq]⟩, q⟩
theorem mt_ok {m : Mt} {id : String} {Q : VK} {px : PV} {ps : List PV} {x : V} {xs : List V} {v : Value} {us : List Value} (hm : mtId px m = some id) (hu : X.A.units + 1 < cLine)
    (I : Inv X pins σ H s) (sim : Sim X.K ρ S H) (rx : RelQ X.K H ρ S.length px x) (rxs : RelQs X.K H ρ S.length ps xs) (rv : RelV x v) (ru : Vals xs us)
    (g : G X.K W CV σ ρ S H (mtV m px ps S) (QV X.K Q)) : wpAny (model X.prog X.w) X.A (call (.builtin id) (v :: us)) (EP X pins σ Q) X.xe s := by
  unfold mtV at g
  split at g
  · cases hm
    cases rx with | loc hl =>
    cases rxs with | cons r1 r2 =>
    cases r2
    cases r1 with | p r1 =>
    split at g
    · rename_i l _ _ _ ds hd
      obtain ⟨ys, q1, rs⟩ := sim.lst hd
      split at g
      · rename_i c
        refine mt_append pins s σ H _ _ v us Q I rv ru ⟨_, ys, _, rfl, rfl, q1, by rw [← rs.length]; exact szl c, ?_⟩
        have w := sim.write (i := l) (o := .lst (ys ++ [_])) (c := .lst (ds ++ [_])) hd ⟨_, upd_same, (rs.append (.cons r1 .nil)).keep (Keep.write _ q1 (fun z => z))⟩
        exact g ρ _ w.2 w.1 _ (.p .non)
      · exact g.elim
    · exact g.elim
  · cases hm
    cases rx with | loc hl =>
    cases rxs
    cases ru
    split at g
    · rename_i l _ ds hd
      obtain ⟨ys, q1, rs⟩ := sim.lst hd
      split at g
      · rename_i d hg
        obtain ⟨y, hy, ry⟩ := rs.get hg
        rw [rs.length] at hy
        refine mt_pop pins s σ H _ _ v [] Q I rv .nil ⟨_, ys, y, rfl, rfl, q1, hy, ?_⟩
        have k : Keep H (upd H (ρ l) (.lst ys.dropLast)) := Keep.write _ q1 (fun z => z)
        have w := sim.write (i := l) (o := .lst ys.dropLast) (c := .lst ds.dropLast) hd ⟨_, upd_same, rs.dropLast.keep k⟩
        exact g ρ _ w.2 w.1 _ (.p (ry.keep k))
      · exact g.elim
    · exact g.elim
  · cases hm
    cases rx with | loc hl =>
    cases rxs
    cases ru
    split at g
    · rename_i l _ ds hd
      obtain ⟨ys, q1, rs⟩ := sim.lst hd
      refine mt_reverse pins s σ H _ _ v [] Q I rv .nil ⟨_, ys, rfl, rfl, q1, ?_⟩
      have w := sim.write (i := l) (o := .lst ys.reverse) (c := .lst ds.reverse) hd ⟨_, upd_same, rs.reverse.keep (Keep.write _ q1 (fun z => z))⟩
      exact g ρ _ w.2 w.1 _ (.p .non)
    · exact g.elim
  · cases hm
    cases rx with | loc hl =>
    cases rxs with | cons r1 r2 =>
    cases r2 with | cons r2 r3 =>
    cases r3
    cases r1 with | p r1 => cases r2 with | p r2 =>
    split at g
    · rename_i l _ _ ds hd
      obtain ⟨ws, q1, rs⟩ := sim.dct hd
      split at g
      · rename_i k hk
        have ek := keyP_rel r1 hk
        subst ek
        obtain ⟨u1, u2, rfl, ra, rb⟩ := vals2 ru
        obtain rfl : v = Value.ref _ := rv
        refine d_get2 hu I (DGet.k (k := k) q1) ra rb fun w' s' I' rw' => ⟨_, H, I', rw', ?_⟩
        rcases lu_rel (k := k) rs with ⟨a, b⟩ | ⟨d, y, a, b, ry⟩
        · rw [a] at g; rw [b]; exact G.okp g sim r2
        · rw [a] at g; rw [b]; exact G.okp g sim ry
      · exact g.elim
    · exact g.elim
  · cases hm
    cases rx with | p rx =>
    cases rx
    cases rxs with | cons r1 r2 =>
    cases r2
    cases r1 with | loc hl =>
    split at g
    · rename_i ds hd
      obtain ⟨ys, q1, rs⟩ := sim.lst hd
      split at g
      · rename_i zs hz
        split at g
        · rename_i c
          rw [strsP_rel hz rs] at q1
          exact mt_join pins s σ H _ _ v us Q I rv ru ⟨_, _, zs, rfl, rfl, .inl (SqL.of q1), c, G.okp g sim (.str _)⟩
        · exact g.elim
      · exact g.elim
    · exact g.elim
  · cases hm
    cases rx with | p rx =>
    cases rx
    cases rxs with | cons r1 r2 =>
    cases r2
    cases r1 with | p r1 =>
    cases r1
    split at g
    · rename_i i r ho
      exact mt_sindex pins s σ H _ _ v us Q I rv ru ⟨_, _, i, r, rfl, rfl, ho, G.okp g sim (.int _)⟩
    · exact g.elim
  · cases hm
    cases rx with | loc hl =>
    cases rxs with | cons r1 r2 =>
    cases r2
    cases r1 with | p r1 =>
    split at g
    · rename_i ds hd
      obtain ⟨ys, q1, rs⟩ := sim.lst hd
      split at g
      · rename_i c
        rw [Bool.and_eq_true] at c
        split at g
        · rename_i j hj
          obtain ⟨h1, h2, h3⟩ := List.findIdx?_eq_some_iff_getElem.mp hj
          obtain ⟨z, hz, rz⟩ := rs.get (List.getElem?_eq_getElem h1)
          have fl : ∀ (m : Nat) (h : m < ds.length), flatP ds[m] = true := fun m h => List.all_eq_true.mp c.2 _ (List.getElem_mem h)
          refine mt_index pins s σ H _ _ v us Q I rv ru ⟨_, ys, _, j, z, rfl, rfl, SqL.of q1, flat_rel r1 c.1, flat_rels rs c.2, hz, ?_, fun m z' hm hz' => ?_, G.okp g sim (.int _)⟩
          · rw [← eqv_flat rz r1 (fl j h1) c.1]; exact h2
          · have hm2 : m < ds.length := by omega
            obtain ⟨z2, hz2, rz2⟩ := rs.get (List.getElem?_eq_getElem hm2)
            rw [hz'] at hz2
            cases hz2
            rw [← eqv_flat rz2 r1 (fl m hm2) c.1]
            simpa using h3 m hm
        · exact g.elim
      · exact g.elim
    · exact g.elim
  · cases hm
    cases rx with | loc hl =>
    cases rxs with | cons r1 r2 =>
    cases r2
    cases r1 with | p r1 =>
    cases r1
    split at g
    · rename_i ds hd
      obtain ⟨ys, q1, rs⟩ := sim.lst hd
      split at g
      · rename_i bs hb
        refine mt_bcount pins s σ H _ _ v us Q I rv ru ⟨_, bs, _, rfl, rfl, ?_, G.okp g sim (.int _)⟩
        rw [blsP_rel hb rs] at q1
        exact SqL.of q1
      · exact g.elim
    · exact g.elim
  · cases hm
    cases rx with | loc hl =>
    cases rxs with | cons r1 r2 =>
    cases r2 with | cons r2 r3 =>
    cases r3
    cases r1 with | p r1 => cases r2 with | p r2 =>
    cases r1
    split at g
    · rename_i n xx xv oc ds hd
      obtain ⟨ys, q1, rs⟩ := sim.lst hd
      split at g
      · rename_i c
        refine mt_insert pins s σ H _ _ v us Q I rv ru ⟨_, ys, _, _, rfl, rfl, q1, by rw [← rs.length]; exact szl c.1, c.2.1, by omega, ?_⟩
        have w := sim.write (o := .lst (ys.take n.toNat ++ [xv] ++ ys.drop n.toNat)) (c := .lst (ds.take n.toNat ++ [xx] ++ ds.drop n.toNat)) hd ⟨_, upd_same, (((rs.take n.toNat).append (.cons r2 .nil)).append (rs.drop n.toNat)).keep (Keep.write _ q1 (fun z => z))⟩
        exact g ρ _ w.2 w.1 _ (.p .non)
      · exact g.elim
    · exact g.elim
  · exact g.elim
theorem few_ok {es : List Expr} {ms : Exs} {env : Env} {cpos : Pos} (h : TrEs C sc es ms) (hl : es.length < 20) : ((backTo cpos (starEach es env)).all (fun x => !x.1) && (backToKw cpos (keywordEach [] env)).all (fun x => x.1.isSome)
      && decide (es.length + ([] : List Keyword).length + (if ([] : List Keyword).isEmpty then 0 else 1) < 30)) = true := by
  have a : (backTo cpos (starEach es env)).all (fun x => !x.1) = true := by
    have := h.plain (env := env) (pos := cpos)
    rw [List.any_eq_false] at this
    rw [List.all_eq_true]
    intro x hx
    have := this x hx
    simpa using this
  rw [a]
  have b : decide (es.length + ([] : List Keyword).length + (if ([] : List Keyword).isEmpty then 0 else 1) < 30) = true := by
    apply decide_eq_true
    show es.length + 0 + 0 < 30
    omega
  rw [b]; rfl
/-- the method's type, name, rule's facts -/
theorem mth_ok {m : Mt} {o : Expr} {es : List Expr} {x : Ex} {ms : Exs} {apos cpos : Pos} (O : Ok C CV cl n sc X W) (ho : PE X o (tE X.K W CV (ev cl x))) (ha : PA X es (tA X.K W CV (evs cl ms))) (hes : TrEs C sc es ms) (hl : es.length = mtArg m) (h20 : mtArg m < 20) (hb : baseB o = true) (hline : (apos.endLine == cpos.line) = true) :
    PE X (.Call (.Attribute o (mtNm m) apos) es [] cpos) (tE X.K W CV (ev cl (.mth m x ms))) := by
  refine ⟨fun pins s σ H Q I hq => ?_⟩
  obtain ⟨en, ρ, S, he, sim, g⟩ := hq
  simp only [ev] at g
  have main0 : (∀ px S1 ρ1 H1 x1 v s1, Inv X pins σ H1 s1 → Sim X.K ρ1 S1 H1 → RelQ X.K H1 ρ1 S1.length px x1 → RelV x1 v → mtTy m px S1 = true → ∃ T id, PlainAttrs T ∧ Slot T (mtNm m) id ∧ typeOf (.builtin id) = pure (.type "method_descriptor") ∧ mtId px m = some id ∧ s1.TypeIs v T ∧ ∀ b, v = .ref b → ∃ ob, s1.heap.get? b = some ob ∧ ob.dict = none) →
      wpAny (model X.prog X.w) X.A (eval (.Call (.Attribute o (mtNm m) apos) es [] cpos) X.env) (EP X pins σ Q) X.xe s := by
    intro ty
    refine wpAny_Call_method_late (base_nb hb) (few_ok hes (by rw [hl]; exact h20)) hline rfl (thn (ev1 ho I he sim g) fun v s1 ⟨x1, H1, ρ1, S1, px, A1, r1, rx, g1⟩ => ?_)
    split at g1
    · rename_i hty'
      obtain ⟨T, id, pa, slot, hty, hid, h1, h2⟩ := ty px S1 ρ1 H1 x1 v s1 A1.inv A1.sim rx r1 hty'
      refine ⟨T, id, pa, slot, hty, h1, h2, ?_⟩
      cases hes with
      | nil =>
        simp only [evs, R.bind] at g1
        exact Calls.callWith_builtin rfl (PySem.evalArgs_none (mt_ok hid O.hu1 A1.inv A1.sim rx .nil r1 .nil g1))
      | cons h1 h2 =>
        have hes : TrEs C sc _ _ := .cons h1 h2
        have fin := thn (evs1 (pos := cpos) ha A1.inv (he.ext A1.ext) A1.sim g1) fun us s2 ⟨xs, H2, ρ2, S2, ps, A2, rs, rps, g2⟩ => mt_ok hid O.hu1 A2.inv A2.sim (rx.ext A2.ext) rps r1 rs g2
        have hp := hes.plain (env := X.env) (pos := cpos)
        rw [starE h1.nst] at fin hp ⊢
        exact Calls.callWith_builtin hp (Calls.evalArgs_plain fin)
    · exact g1.elim
  have main : ∀ (T id : String), PlainAttrs T → Slot T (mtNm m) id → typeOf (.builtin id) = pure (.type "method_descriptor") → (∀ px S1, mtTy m px S1 = true → mtId px m = some id) →
      (∀ px S1 ρ1 H1 x1 v s1, Inv X pins σ H1 s1 → Sim X.K ρ1 S1 H1 → RelQ X.K H1 ρ1 S1.length px x1 → RelV x1 v → mtTy m px S1 = true → s1.TypeIs v T ∧ ∀ b, v = .ref b → ∃ ob, s1.heap.get? b = some ob ∧ ob.dict = none) →
      wpAny (model X.prog X.w) X.A (eval (.Call (.Attribute o (mtNm m) apos) es [] cpos) X.env) (EP X pins σ Q) X.xe s := fun T id pa slot hty hid ty =>
    main0 fun px S1 ρ1 H1 x1 v s1 i1 i2 i3 i4 i5 => ⟨T, id, pa, slot, hty, hid px S1 i5, ty px S1 ρ1 H1 x1 v s1 i1 i2 i3 i4 i5⟩
  have lty : ∀ (px : PV) (S1 : Sto) (ρ1 : Nat → Addr) (H1 : Hp) (x1 : V) (v : Value) (s1 : Shared), Inv X pins σ H1 s1 → Sim X.K ρ1 S1 H1 → RelQ X.K H1 ρ1 S1.length px x1 → RelV x1 v → (∃ l ds, px = .loc l ∧ S1[l]? = some (.lst ds)) → s1.TypeIs v "list" ∧ ∀ b, v = .ref b → ∃ ob, s1.heap.get? b = some ob ∧ ob.dict = none := by
    intro px S1 ρ1 H1 x1 v s1 I1 sm rx rv ⟨l, ds, e, hd⟩
    subst e
    obtain ⟨ys, q1, rs⟩ := sm.lst hd
    cases rx
    exact tyV_is (T := "list") I1 rv (.inl ⟨rfl, ys, SqL.of q1⟩)
  have isl : ∀ {px : PV} {S1 : Sto}, isLst px S1 = true → ∃ l ds, px = .loc l ∧ S1[l]? = some (.lst ds) := by
    intro px S1 h
    unfold isLst at h
    split at h
    · split at h
      · rename_i e; exact ⟨_, _, rfl, e⟩
      · cases h
    · cases h
  have ist : ∀ (px : PV) (S1 : Sto) (ρ1 : Nat → Addr) (H1 : Hp) (x1 : V) (v : Value) (s1 : Shared), RelQ X.K H1 ρ1 S1.length px x1 → RelV x1 v → isStr px = true → s1.TypeIs v "str" ∧ ∀ b, v = .ref b → ∃ ob, s1.heap.get? b = some ob ∧ ob.dict = none := by
    intro px S1 ρ1 H1 x1 v s1 rx rv h
    unfold isStr at h
    split at h
    · cases rx with | p r =>
      cases r
      obtain ⟨t, rfl⟩ := rv
      exact ⟨typeIs_str _ _ _, fun b e => by cases e⟩
    · cases h
  cases m with
  | join => exact main "str" "str.join" PySem.F.plainAttrs_str PySem.F.slot_str_join PySem.F.type_str_join (fun _ _ _ => rfl) fun px S1 ρ1 H1 x1 v s1 I1 sm rx rv h => ist px S1 ρ1 H1 x1 v s1 rx rv h
  | index =>
    refine main0 fun px S1 ρ1 H1 x1 v s1 I1 sm rx rv h => ?_
    have h : (isStr px || isLst px S1) = true := h
    cases q : isStr px with
    | true =>
      obtain ⟨t1, t2⟩ := ist px S1 ρ1 H1 x1 v s1 rx rv q
      refine ⟨"str", "str.index", PySem.F.plainAttrs_str, PySem.F.slot_str_index, PySem.F.type_str_index, ?_, t1, t2⟩
      cases px with
      | loc _ => cases q
      | _ => rfl
    | false =>
      rw [q, Bool.false_or] at h
      obtain ⟨l, ds, e, hd⟩ := isl h
      obtain ⟨t1, t2⟩ := lty px S1 ρ1 H1 x1 v s1 I1 sm rx rv ⟨l, ds, e, hd⟩
      subst e
      exact ⟨"list", "list.index", PySem.F.plainAttrs_list, PySem.F.slot_list_index, PySem.F.type_list_index, rfl, t1, t2⟩
  | count => exact main "list" "list.count" PySem.F.plainAttrs_list PySem.F.slot_list_count PySem.F.type_list_count (fun _ _ _ => rfl) fun px S1 ρ1 H1 x1 v s1 I1 sm rx rv h => lty px S1 ρ1 H1 x1 v s1 I1 sm rx rv (isl h)
  | insert => exact main "list" "list.insert" PySem.F.plainAttrs_list PySem.F.slot_list_insert PySem.F.type_list_insert (fun _ _ _ => rfl) fun px S1 ρ1 H1 x1 v s1 I1 sm rx rv h => lty px S1 ρ1 H1 x1 v s1 I1 sm rx rv (isl h)
  | append => exact main "list" "list.append" PySem.F.plainAttrs_list PySem.F.slot_list_append PySem.F.type_list_append (fun _ _ _ => rfl) fun px S1 ρ1 H1 x1 v s1 I1 sm rx rv h => lty px S1 ρ1 H1 x1 v s1 I1 sm rx rv (isl h)
  | pop0 => exact main "list" "list.pop" PySem.F.plainAttrs_list PySem.F.slot_list_pop PySem.F.type_list_pop (fun _ _ _ => rfl) fun px S1 ρ1 H1 x1 v s1 I1 sm rx rv h => lty px S1 ρ1 H1 x1 v s1 I1 sm rx rv (isl h)
  | reverse => exact main "list" "list.reverse" PySem.F.plainAttrs_list PySem.F.slot_list_reverse PySem.F.type_list_reverse (fun _ _ _ => rfl) fun px S1 ρ1 H1 x1 v s1 I1 sm rx rv h => lty px S1 ρ1 H1 x1 v s1 I1 sm rx rv (isl h)
  | get2 =>
    refine main "dict" "dict.get" PySem.F.plainAttrs_dict PySem.F.slot_dict_get PySem.F.type_dict_get (fun _ _ _ => rfl) fun px S1 ρ1 H1 x1 v s1 I1 sm rx rv h => ?_
    have h : isDct px S1 = true := h
    unfold isDct at h
    split at h
    · split at h
      · rename_i e
        obtain ⟨ws, q1, rs⟩ := sm.dct e
        cases rx
        obtain rfl : v = Value.ref _ := rv
        obtain ⟨t1, t2, _⟩ := isD_at I1 (.inl ⟨ws, .inl q1⟩)
        exact ⟨t1, t2⟩
      · cases h
    · cases h

/-! ### a written dict -/
def DP (X : Cx) (W : WX) (CV : Nat → Value) (f : En → Sto → R (List PV)) (ks : List Str) (σ : L2.St) (H : Hp) (Q : List (V × V) → Hp → Prop) : Prop :=
  ∃ en ρ S, EnvOk X.K H ρ S.length en σ ∧ Sim X.K ρ S H ∧ G X.K W CV σ ρ S H (f en S) (fun vs ρ' S' H' => ∀ xs : List V, RelQs X.K H' ρ' S'.length vs xs → xs.length = ks.length ∧ Q (List.zip (ks.map V.str) xs) H')
theorem relQs_nil {K : PySem.W.Frag} {L : Nat} {xs : List V} (h : RelQs K H ρ L [] xs) : xs = [] := by cases h; rfl
theorem puK_eq {kvs : List (Key × P)} {ws : List (Key × V)} {k : Key} {d : P} {x : V} (r : RelKs X.K H kvs ws) (rx : RelP X.K H d x) : RelKs X.K H (puK kvs k d) (putK ws k x) := by
  have any : (kvs.any fun kv => decide (kv.1 = k)) = (ws.any fun kv => decide (kv.1 = k)) := by
    induction r with
    | nil => rfl
    | cons a _ ih => rw [List.any_cons, List.any_cons, ih, a.1]
  unfold puK putK
  rw [any]
  split
  · rename_i c
    clear c any
    induction r with
    | nil => exact .nil
    | @cons a b _ _ ab _ ih =>
      rw [List.map_cons, List.map_cons]
      refine .cons ?_ ih
      by_cases e : a.1 = k
      · rw [if_pos e, if_pos (ab.1 ▸ e)]; exact ⟨ab.1, rx⟩
      · rw [if_neg e, if_neg (ab.1 ▸ e)]; exact ab
  · rename_i c
    clear c any
    induction r with
    | nil => exact .cons ⟨rfl, rx⟩ .nil
    | cons ab _ ih => exact .cons ab ih
theorem dct_rel : ∀ {ks : List Str} {vs : List PV} {xs : List V} {acc kvs : List (Key × P)} {aw : List (Key × V)}, dctV ks vs acc = some kvs → RelQs X.K H ρ S.length vs xs → RelKs X.K H acc aw →
    ∃ kw : List (Key × V), List.zip (ks.map V.str) xs = kw.map (fun kv => (kV kv.1, kv.2)) ∧ kw.length = ks.length ∧ RelKs X.K H kvs (mergeK aw kw)
  | [], [], xs, acc, kvs, aw, h, r, ra => by
    cases r
    cases h
    exact ⟨[], rfl, rfl, ra⟩
  | k :: ks, .p d :: vs, xs, acc, kvs, aw, h, r, ra => by
    cases r with | cons r1 r2 =>
    rename_i x xs
    cases r1 with | p rd =>
    have h : dctV ks vs (puK acc (.inr k) d) = some kvs := h
    obtain ⟨kw, e, l, rk⟩ := dct_rel h r2 (puK_eq (k := .inr k) ra rd)
    refine ⟨(.inr k, x) :: kw, ?_, by simp [l], rk⟩
    rw [List.map_cons, List.zip_cons_cons, e]; rfl
  | [], _ :: _, _, _, _, _, h, _, _ => by cases h
  | _ :: _, [], _, _, _, _, h, _, _ => by cases h
  | _ :: _, .loc _ :: _, _, _, _, _, h, _, _ => by cases h
  | _ :: _, .mt _ :: _, _, _, _, _, h, _, _ => by cases h
  | _ :: _, .exc _ :: _, _, _, _, _, h, _, _ => by cases h
theorem dct_okD {keys : List (Option Expr)} {k₀ : Option Expr} {vals : List Expr} {ks : List Str} {ms : Exs} {pos : Pos} (h : TrD C sc (k₀ :: keys) vals ks ms) (h15 : (k₀ :: keys).length ≤ 15) (ih : ∀ pos, ∃ trs, PPs X pos (k₀ :: keys) vals trs ∧ ∀ σ H Q, DP X W CV (evs cl ms) ks σ H Q → tPairs trs σ H Q) :
    PE X (.Dict (k₀ :: keys) vals pos) (tE X.K W CV (ev cl (.dct ks ms))) := by
  obtain ⟨trs, hp, hq⟩ := ih pos
  have hlen : ∀ {keys : List (Option Expr)} {vals : List Expr} {ks : List Str} {ms : Exs}, TrD C sc keys vals ks ms → keys.length = vals.length ∧ keys.length = ks.length ∧ keys.all (·.isSome) = true := by
    intro keys
    induction keys with
    | nil => intro vals ks ms h; cases h; exact ⟨rfl, rfl, rfl⟩
    | cons k keys IH =>
      intro vals ks ms h
      cases h with | cons a b =>
      obtain ⟨x, y, z⟩ := IH b
      exact ⟨by simp [x], by simp [y], by rw [List.all_cons, z]; rfl⟩
  obtain ⟨l1, l2, l3⟩ := hlen h
  refine ⟨fun pins s σ H Q I hq0 => ?_⟩
  refine (pe_disp (pos := pos) hp l3 l1 (by simp) h15).run pins s σ H Q I ?_
  obtain ⟨en, ρ, S, he, sim, g⟩ := hq0
  simp only [ev] at g
  intro p hp0
  obtain ⟨s0, e0⟩ := sim.new (o := .dK []) (c := .dct []) hp0 ⟨[], upd_same, .nil⟩
  refine hq σ _ _ ⟨en, _, S ++ [.dct []], he.ext e0, s0, (G.bind (g.from e0)).imp fun vs ρ1 S1 H1 e1 s1 g1 xs rxs => ?_⟩
  split at g1
  · rename_i kvs h1 h2
    obtain ⟨ws, q1, r0⟩ := s1.dct h1
    cases r0
    have er : ρ1 S.length = p := (e1.same S.length (by simp)).trans put_same
    rw [er] at q1
    obtain ⟨kw, e, l, rk⟩ := dct_rel h2 rxs (Paired.nil : RelKs X.K H1 [] [])
    have k2 : Keep H1 (upd H1 p (.dK (mergeK [] kw))) := Keep.write _ q1 (fun z => z)
    have w := s1.write (i := S.length) (o := .dK (mergeK [] kw)) (c := .dct kvs) h1 ⟨_, upd_same, rk.keep (by rw [er]; exact k2)⟩
    rw [er] at w
    refine ⟨?_, q1, kw, e, by rw [l, ← l2]; exact h15, ?_⟩
    · have := congrArg List.length e
      have hl := rxs.length
      have e3 : ∀ {ks : List Str} {vs : List PV} {acc kvs : List (Key × P)}, dctV ks vs acc = some kvs → ks.length = vs.length := by
        intro ks
        induction ks with
        | nil =>
          intro vs acc kvs h
          cases vs with
          | nil => rfl
          | cons _ _ => cases h
        | cons k ks IH =>
          intro vs acc kvs h
          cases vs with
          | nil => cases h
          | cons v vs =>
            cases v with
            | p d => have h : dctV ks vs (puK acc (.inr k) d) = some kvs := h; simp [IH h]
            | loc _ => cases h
            | mt _ => cases h
            | exc _ => cases h
      rw [← hl, e3 h2]
    · refine g1 ρ1 _ w.2 w.1 (.ref p) ?_
      have z : RelQ X.K (upd H1 p (.dK (mergeK [] kw))) ρ1 (S1.set S.length (Cell.dct kvs)).length (.loc S.length) (.ref (ρ1 S.length)) := .loc (by simp; exact getE_lt h1)
      rw [er] at z
      exact z
  · exact g1.elim

/-! ### comprehensions -/
abbrev W0 : WX := fun _ _ _ _ => False
theorem comp_ok {i : Nat} {it : Ix} {tst : Oe} {e : Ex} :
    ∀ σ H Q, tE X.K W CV (ev cl (.comp i it tst e)) σ H Q → tLc (tI X.K W CV (evI cl it)) (gName i) (tT X.K W0 CV (evC cl tst)) (tE X.K W0 CV (ev cl e)) [i] σ H Q := by
  intro σ H Q hq
  obtain ⟨en, ρ, S, he, sim, g⟩ := hq
  simp only [ev] at g
  refine ⟨en, ρ, S, he, sim, (G.bind g).imp fun q ρ1 S1 H1 e1 s1 g1 J wk => ?_⟩
  intro D hD
  obtain ⟨s0, e0⟩ := s1.new (o := .lst []) (c := .lst []) hD ⟨[], upd_same, .nil⟩
  obtain ⟨its, w⟩ := q
  dsimp only at g1 wk
  have inv : ∀ (k : Nat) (H' : Hp), Prop := fun k H' => ∃ ρ' S', Ext (put ρ1 S1.length D) (S1 ++ [Cell.lst []]) (upd H1 D (.lst [])) ρ' S' H' ∧ Sim X.K ρ' S' H' ∧
    G X.K W CV σ ρ' S' H' ((compL (ev cl e) (evC cl tst) i w S1.length (its.drop k) en S').bind fun _ S' => .ok (.loc S1.length) S') (QV X.K Q)
  refine ⟨fun k m H' => m = its.length - k ∧ ∃ ρ' S', Ext (put ρ1 S1.length D) (S1 ++ [Cell.lst []]) (upd H1 D (.lst [])) ρ' S' H' ∧ Sim X.K ρ' S' H' ∧
    G X.K W CV σ ρ' S' H' ((compL (ev cl e) (evC cl tst) i w S1.length (its.drop k) en S').bind fun _ S' => .ok (.loc S1.length) S') (QV X.K Q), ⟨its.length, by simp, _, _, Ext.refl, s0, ?_⟩, ?_⟩
  · rw [List.drop_zero]
    exact g1.from e0
  · rintro k m H' ⟨rfl, ρ', S', ex, sm, g2⟩
    have hloc : ρ' S1.length = D := (ex.same S1.length (by simp)).trans put_same
    have hlt : S1.length < S'.length := Nat.lt_of_lt_of_le (by simp) ex.le
    cases hd : its.drop k with
    | nil =>
      have hk : its.length ≤ k := by
        have := congrArg List.length hd
        rw [List.length_drop] at this
        simp at this; omega
      rw [hd] at g2
      unfold compL at g2
      split at g2
      · rename_i hw
        refine .inl ⟨(wk ρ' S' H' (e0.trans ex) sm hw k).2 hk, ?_⟩
        have z : RelQ X.K H' ρ' S'.length (.loc S1.length) (.ref (ρ' S1.length)) := .loc hlt
        rw [hloc] at z
        exact g2 ρ' H' Ext.refl sm _ z
      · exact g2.elim
    | cons x r =>
      have hk : its[k]? = some x := by
        have := congrArg (·[0]?) hd
        simpa using this
      have hr : its.drop (k + 1) = r := by
        have := congrArg List.tail hd
        simpa using this
      have hkl := getE_lt hk
      rw [hd] at g2
      unfold compL at g2
      split at g2
      · rename_i hw
        obtain ⟨hgo, hy⟩ := (wk ρ' S' H' (e0.trans ex) sm hw k).1 x hk
        refine .inr ⟨hgo, fun H' => ∃ ρ' S', Ext (put ρ1 S1.length D) (S1 ++ [Cell.lst []]) (upd H1 D (.lst [])) ρ' S' H' ∧ Sim X.K ρ' S' H' ∧
          G X.K W CV σ ρ' S' H' ((compL (ev cl e) (evC cl tst) i w S1.length r en S').bind fun _ S' => .ok (.loc S1.length) S') (QV X.K Q), fun H'' h => ⟨its.length - (k + 1), by omega, rfl, by rw [hr]; exact h⟩, fun y H'' yl => ?_⟩
        obtain ⟨sh, ry⟩ := hy y H'' yl
        have sm2 := sm.same sh
        have ex2 : Ext ρ' S' H' ρ' S' H'' := ⟨Nat.le_refl _, fun _ _ => rfl, sh.keep⟩
        have wset : (wipe σ [i]).set i (some y) = σ.set i (some y) := by
          show ((wipe σ []).set i none).set i (some y) = _
          rw [List.set_set]; rfl
        show wipe ((wipe σ [i]).set i (some y)) [i] = wipe σ [i] ∧ _
        refine ⟨by rw [wset]; show (wipe _ []).set i none = (wipe _ []).set i none; show (σ.set i (some y)).set i none = σ.set i none; rw [List.set_set], ?_⟩
        rw [wset]
        have he2 : EnvOk X.K H'' ρ' S'.length (en.set i (some x)) (σ.set i (some y)) := ((he.ext e1).ext ((e0.trans ex).trans ex2)).set ry
        have g3 := g2.from ex2
        refine ⟨en.set i (some x), ρ', S', he2, sm2, ?_⟩
        cases hq : evC cl tst (en.set i (some x)) S' with
        | no => rw [hq] at g3; exact g3.elim
        | ex c Sx => rw [hq] at g3; exact g3.elim
        | ok b S3 =>
          rw [hq] at g3
          intro ρ3 H3 e3 s3
          cases b with
          | false =>
            rw [if_neg Bool.false_ne_true]
            exact ⟨ρ3, S3, (ex.trans ex2).trans e3, s3, g3.from e3⟩
          | true =>
            rw [if_pos rfl]
            refine ⟨en.set i (some x), ρ3, S3, he2.ext e3, s3, ?_⟩
            have g4 := g3.from e3
            dsimp only at g4
            cases hq2 : ev cl e (en.set i (some x)) S3 with
            | no => rw [hq2] at g4; exact g4.elim
            | ex c Sx => rw [hq2] at g4; exact g4.elim
            | ok v S4 =>
              rw [hq2] at g4
              intro ρ4 H4 e4 s4 z rz
              cases v with
              | loc _ => exact g4.elim
              | mt _ => exact g4.elim
              | exc _ => exact g4.elim
              | p d =>
                dsimp only at g4
                split at g4
                · rename_i acc hacc
                  obtain ⟨av, q4, ra⟩ := s4.lst hacc
                  have hl4 : ρ4 S1.length = D := by
                    rw [e4.same _ (Nat.lt_of_lt_of_le hlt e3.le), e3.same _ hlt]; exact hloc
                  rw [hl4] at q4
                  split at g4
                  · rename_i c
                    cases rz with | p rz =>
                    refine ⟨av, q4, by rw [← ra.length]; exact szl c, ?_⟩
                    have k2 : Keep H4 (upd H4 D (.lst (av ++ [z]))) := Keep.write _ q4 (fun z => z)
                    have wr := s4.write (i := S1.length) (o := .lst (av ++ [z])) (c := .lst (acc ++ [d])) hacc ⟨_, upd_same, (ra.append (.cons rz .nil)).keep (by rw [hl4]; exact k2)⟩
                    rw [hl4] at wr
                    exact ⟨ρ4, _, (((ex.trans ex2).trans e3).trans e4).trans wr.2, wr.1, (g4.from e4).from wr.2⟩
                  · exact g4.elim
                · exact g4.elim
      · exact g2.elim
end
end Kp

set_option Elab.async false
set_option linter.all false
set_option maxRecDepth 100000
set_option maxHeartbeats 8000000
set_option autoImplicit false
/-! K8b: max of a list with a default. -/
namespace Kp
open PySem PySem.Spec PyProof.Rows L2
variable [Xc]
theorem maxOf_I (n : Int) : ∀ ns : List Int, PySem.W.maxOf n ns = maxI n ns := by
  intro ns
  unfold PySem.W.maxOf
  induction ns generalizing n with
  | nil => rfl
  | cons k r ih =>
    rw [List.foldl_cons, maxI, ← ih]
    congr 1
    show (if decide (n < k) = true then k else n) = if k > n then k else n
    by_cases h : n < k
    · rw [if_pos (decide_eq_true h), if_pos h]
    · rw [if_neg (by simpa using h), if_neg h]
def maxR (d : V) : List Int → V
  | [] => d
  | n :: ns => .int (maxI n ns)
def rMaxD (K : PySem.W.Frag) : List V → List V → Hp → VK → Prop := fun vs zs H Q => ∃ (a : Addr) (ns : List Int) (d : V), vs = [.ref a] ∧ zs = [d] ∧ SqL K H a (ns.map V.int) ∧ Q (maxR d ns) H
section
variable {X : Cx}
theorem cr_maxD (hc : X.calm = true) (hu : X.A.units + 1 < cLine) : CallRK X (.builtin "max") [Str.ofString "default"] (rMaxD X.K) := by
  intro pins s σ H vs zs us ws Q I rv rz h
  obtain ⟨a, ns, d, rfl, rfl, hs, q⟩ := h
  obtain ⟨u, rfl, rd⟩ := vals1 rz
  obtain ⟨its, ri, hl, _⟩ := I.list hs
  rw [Vals.ref1 rv]
  refine PySem.W.max_list_datum_default (α := Int) (xs := ns) (I.ok.hd hc) hl.isList ⟨[], ints_readAll _ ri.ints⟩ hu (fun e h' tk k => ?_) fun y ys i v h' tk e hi hv k => ?_
  · subst e
    exact ⟨d, H, I.kept k, rd, q⟩
  · subst e
    obtain ⟨as, r⟩ := hv
    rw [maxOf_I] at r
    cases r
    exact ⟨.int (maxI y ys), H, I.kept k, ⟨_, rfl⟩, q⟩
end
theorem evs2 {α : Type} {cl : Cl} {x y : Ex} {en : En} {S : Sto} (k : List PV → Sto → R α) : (evs cl (.cons x (.cons y .nil)) en S).bind k = (ev cl x en S).bind fun a S => (ev cl y en S).bind fun b S => k [a, b] S := by
  simp only [evs]
  cases ev cl x en S with
  | ok a S1 =>
    dsimp only [R.bind]
    cases ev cl y en S1 <;> rfl
  | _ => rfl
section
variable {CV : Nat → Value} {W : WX} {X : Cx} {σ : L2.St} {H : Hp} {ρ : Nat → Addr} {S : Sto}
theorem maxd_G {px py : PV} {x y : V} {Q : VK} (sim : Sim X.K ρ S H) (rx : RelQ X.K H ρ S.length px x) (ry : RelQ X.K H ρ S.length py y) (g : G X.K W CV σ ρ S H (biV .maxd [px, py] S) (QV X.K Q)) : rMaxD X.K [x] [y] H Q := by
  unfold biV at g
  cases px with
  | loc l =>
    cases py with
    | p d =>
      cases rx with | loc hl =>
      cases ry with | p rd =>
      dsimp only at g
      split at g
      · rename_i xs h
        obtain ⟨ys, q1, r⟩ := sim.lst h
        split at g
        · rename_i n ns e
          rw [intsP_eq e] at r
          rw [r.toInts] at q1
          exact ⟨_, n :: ns, _, rfl, rfl, SqL.of q1, G.okp g sim (.int _)⟩
        · rename_i e
          rw [intsP_eq e] at r
          rw [r.toInts] at q1
          exact ⟨_, [], _, rfl, rfl, SqL.of q1, G.okp g sim rd⟩
        · exact g.elim
      · exact g.elim
    | _ => exact g.elim
  | _ => cases py <;> exact g.elim
end
end Kp

set_option Elab.async false
set_option linter.all false
set_option maxRecDepth 100000
set_option maxHeartbeats 8000000
set_option autoImplicit false
/-! K8c: exceptions as values; defs called where one is handled. -/
namespace Kp
open PySem PySem.Spec PyProof.Rows L2
section
variable {K : PySem.W.Frag} {H : Hp} {ρ : Nat → Addr} {L : Nat} {x0 x1 : Xc}
mutual
theorem RelQ.to (h : ∀ c a, x0.at' c a → x1.at' c a) : ∀ (v : PV) (x : V), @RelQ x0 K H ρ L v x → @RelQ x1 K H ρ L v x
  | .p d, _, r => by cases r with | p r => exact .p r
  | .loc i, _, r => by cases r with | loc r => exact .loc r
  | .mt ds, _, r => by cases r with | mt a b => exact .mt a (RelQs.to h ds _ b)
  | .exc c, _, r => by cases r with | exc r => exact .exc (h _ _ r)
theorem RelQs.to (h : ∀ c a, x0.at' c a → x1.at' c a) : ∀ (v : List PV) (x : List V), @RelQs x0 K H ρ L v x → @RelQs x1 K H ρ L v x
  | [], _, r => by cases r; exact .nil
  | d :: ds, _, r => by cases r with | cons a b => exact .cons (RelQ.to h d _ a) (RelQs.to h ds _ b)
end
mutual
/-- what has no exception in it stands whatever is handled -/
theorem RelQ.free : ∀ (v : PV) (x : V), hasX v = false → @RelQ x0 K H ρ L v x → @RelQ x1 K H ρ L v x
  | .p d, _, _, r => by cases r with | p r => exact .p r
  | .loc i, _, _, r => by cases r with | loc r => exact .loc r
  | .mt ds, _, h, r => by cases r with | mt a b => exact .mt a (RelQs.free ds _ (by simpa [hasX] using h) b)
  | .exc c, _, h, _ => by simp [hasX] at h
theorem RelQs.free : ∀ (v : List PV) (x : List V), hasXs v = false → @RelQs x0 K H ρ L v x → @RelQs x1 K H ρ L v x
  | [], _, _, r => by cases r; exact .nil
  | d :: ds, _, h, r => by
    simp only [hasXs, Bool.or_eq_false_iff] at h
    cases r with | cons a b => exact .cons (RelQ.free d _ h.1 a) (RelQs.free ds _ h.2 b)
end
theorem EnvOk.to {en : En} {σ : L2.St} (h : ∀ c a, x0.at' c a → x1.at' c a) (e : @EnvOk x0 K H ρ L en σ) : @EnvOk x1 K H ρ L en σ :=
  @EnvOk.mk x1 _ _ _ _ _ _ (@EnvOk.len x0 _ _ _ _ _ _ e) (fun i v g => let ⟨x, a, b⟩ := @EnvOk.get x0 _ _ _ _ _ _ e i v g; ⟨x, a, RelQ.to h v x b⟩)
theorem EnvOk.free {en : En} {σ : L2.St} (h : hasXE en = false) (e : @EnvOk x0 K H ρ L en σ) : @EnvOk x1 K H ρ L en σ := by
  refine @EnvOk.mk x1 _ _ _ _ _ _ (@EnvOk.len x0 _ _ _ _ _ _ e) (fun i v g => ?_)
  obtain ⟨x, a, b⟩ := @EnvOk.get x0 _ _ _ _ _ _ e i v g
  refine ⟨x, a, RelQ.free v x ?_ b⟩
  unfold hasXE at h
  rw [List.any_eq_false] at h
  have := h _ (List.mem_of_getElem? g)
  simpa using this
end
theorem xc0_le {x : Xc} : ∀ c a, xc0.at' c a → x.at' c a := fun _ _ h => h.elim
variable [Xc]
section
variable {X : Cx} {CX : CXT} {k : Nat} {f : Addr} {fd : FuncData} {ps : List Str} {sp : Addr × Obj → Sp} {E : L2.St → XK}
/-- such a def called -/
theorem run_fnX {pins : List (Addr × Obj)} {σ : L2.St} {H : Hp} {s : Shared} {Q : VK} {us : List Value} {vs : List V} {p : Addr × Obj} (F : FnX X.prog X.w X.K X.mg X.base CX k f fd ps sp) (hr : L2H.RoomH k X.A) (hot : L2H.Hot1 X.A p) (hp : p ∈ X.pn)
    (hb : Binds X.K fd ps []) (hx : PassesAt CX X σ (E σ)) (I : Inv X pins σ H s) (r : Vals vs us) (h : sp p vs H Q (E σ)) : wpAny (model X.prog X.w) X.A (call (.ref f) us) (EP X pins σ Q) X.xe s := by
  have hl : us.length = ps.length := r.length.symm.trans (F.len _ _ _ _ _ h)
  have b := hb s us I.kIn (by simpa using hl)
  rw [List.append_nil] at b
  obtain ⟨q1, q2, q3, q4, q5⟩ := I.pin p (List.mem_append_left _ hp)
  have pin : L2H.PinOk X.stack H s p := ⟨q1, q2, fun hm => by
    rcases List.mem_cons.mp (I.stkSub p.1 hm) with z | z
    · exact q3 z
    · exact q4 z, q5⟩
  have run := F.run p X.A X.stack s H ⟨us, []⟩ us vs Q (E σ) hr hot pin I.env0 b r h
  refine wpAny_call (codeAny_mono run fun r s' hq => ?_)
  match r, hq with
  | .error e, hq => exact hx pins H s e s' I hq
  | .ok (.ret u), hq => exact I.after hq
  | .ok .next, hq => exact hq.elim
  | .ok .brk, hq => exact hq.elim
  | .ok .cont, hq => exact hq.elim
end
section
variable {C : TC} {CV : Nat → Value} {cl : Cl} {n : Nat} {sc : Scope} {X : Cx} {W : WX}
variable {pins : List (Addr × Obj)} {s : Shared} {σ : L2.St} {H : Hp} {en : En} {ρ : Nat → Addr} {S : Sto}
theorem relQs_cold {ps : List PV} {xs : List V} {L : Nat} {K : PySem.W.Frag} (h : ∀ c a, ¬ Xc.at' c a) (r : RelQs K H ρ L ps xs) : @RelQs xc0 K H ρ L ps xs := RelQs.to (fun c a z => absurd z (h c a)) _ _ r
theorem G_cold {K : PySem.W.Frag} {r : R PV} {Q : VK} (g : G K W CV σ ρ S H r (QV K Q)) : G K W CV σ ρ S H r (@QV xc0 K Q) :=
  g.imp fun a ρ' S' H' e sm q x rx => q x (RelQ.to xc0_le _ _ rx)
/-- a class by its name -/
def tNm (X : Cx) (x : Str) : TE := fun _ H Q => ∃ v cv, RelV v cv ∧ (X.mg x = some cv ∨ X.mg x = none ∧ bootBuiltins x = some cv) ∧ Q v H
theorem pe_nm {x : Str} {p : Pos} (hg : Gl X x) (hd : dbg x = true) (hn : x ≠ "__name__") : PE X (.Name x p) (tNm X x) := by
  refine ⟨fun pins s σ H Q I ⟨v, cv, r, hm, q⟩ => ?_⟩
  rcases hm with hm | ⟨hm, hv⟩
  · exact (pe_glob hg hm r (dbg1 hd)).run pins s σ H Q I q
  · exact (pe_bltn hg hm hv r hn (dbg1 hd)).run pins s σ H Q I q
theorem isx_cls {c : Nat} {xs : List Str} {ys ns : List Nat} {S1 : Sto} {b : Bool} {S2 : Sto} (h : isxV ys ns (.exc c) S1 = .ok b S2) (hy : ys = yesX C xs) (hn : ns = noX C xs) : S2 = S1 ∧ (∀ x ∈ xs, (C.isx x c).isSome = true) ∧ b = xs.any fun x => C.isx x c == some true := by
  subst hy hn
  unfold isxV at h
  dsimp only at h
  split at h
  · rename_i q
    cases h
    have q := (List.mem_filter.mp (List.contains_iff_mem.mp q)).2
    rw [Bool.and_eq_true] at q
    exact ⟨rfl, fun x hx => List.all_eq_true.mp q.1 x hx, q.2.symm⟩
  · split at h
    · rename_i q
      cases h
      have q := (List.mem_filter.mp (List.contains_iff_mem.mp q)).2
      refine ⟨rfl, fun x hx => ?_, ?_⟩
      · have := List.all_eq_true.mp q x hx
        rw [eq_of_beq this]; rfl
      · symm
        rw [List.any_eq_false]
        intro x hx
        have := List.all_eq_true.mp q x hx
        rw [eq_of_beq this]
        decide
    · cases h
/-- the handled exception stands in the state -/
theorem exc_inst {c : Nat} {a D : Addr} {Y : Cx} {p : Addr × Obj} (I : Inv Y pins σ H s) (hp : p ∈ Y.pn) (hot : L2H.Hot1 Y.A p) (ha : (xcP CV p).at' c a) (hD : CV c = .ref D) : ∃ oe, PySem.W.InstAt s.heap a oe D none := by
  obtain ⟨rfl, h2, h3⟩ := ha
  obtain ⟨_, vs, hv, _⟩ := hot
  obtain ⟨hget, _⟩ := I.pin p (List.mem_append_left _ hp)
  rw [hD] at h2
  obtain ⟨pa, oc, od, oda, osl⟩ := p
  dsimp only at h2 h3 hv hget
  subst h2 h3 hv
  exact ⟨_, hget, rfl, rfl, trivial⟩
theorem isx_tail {cs : List Nat} {px : PV} {x : V} {ys ns : List Nat} {xs : List Str} {S1 : Sto} {ρ1 : Nat → Addr} {H1 : Hp} {Q : VK} (O : Ok C CV cl n sc X W) (sm : Sim X.K ρ1 S1 H1) (hy : ys = yesX C xs) (hn : ns = noX C xs) (rx : RelQ X.K H1 ρ1 S1.length px x)
    (g : G X.K W CV σ ρ1 S1 H1 ((isxV ys ns px S1).bind fun b S => okP (.bool b) S) (QV X.K Q)) :
    ∃ (c : Nat) (a : Addr) (p : Addr × Obj), x = .ref a ∧ p ∈ X.pn ∧ L2H.Hot1 X.A p ∧ (xcP CV p).at' c a ∧ (∀ y ∈ xs, ∃ b, C.isx y c = some b) ∧ ∀ H2, Ext ρ1 S1 H1 ρ1 S1 H2 → Sim X.K ρ1 S1 H2 → Q (.bl (xs.any fun y => C.isx y c == some true)) H2 := by
  cases px with
  | exc c =>
    cases rx with | exc ra =>
    rename_i a
    cases hr : isxV ys ns (.exc c) S1 with
    | no => rw [hr] at g; exact g.elim
    | ex d S2 =>
      unfold isxV at hr
      dsimp only at hr
      split at hr
      · cases hr
      · split at hr <;> cases hr
    | ok b S2 =>
      obtain ⟨rfl, h1, h2⟩ := isx_cls hr hy hn
      rw [hr] at g
      have q : ∀ H2, Ext ρ1 S2 H1 ρ1 S2 H2 → Sim X.K ρ1 S2 H2 → Q (.bl b) H2 := fun H2 e2 s2 => (show G X.K W CV σ ρ1 S2 H1 (okP (.bool b) S2) (QV X.K Q) from g) ρ1 H2 e2 s2 _ (.p (.bl b))
      cases hot : C.hot with
      | false => exact absurd ra (O.cold hot _ _)
      | true =>
        obtain ⟨p, hp, hpn, e⟩ := O.warm hot
        refine ⟨c, a, p, rfl, hpn, hp, ?_, fun y hy => Option.isSome_iff_exists.mp (h1 y hy), by rw [← h2]; exact q⟩
        have e2 : (xcP CV p).at' c a = Xc.at' c a := by rw [← e]
        rw [e2]; exact ra
  | _ => exact g.elim
theorem isx_one {e : Expr} {m : Ex} {x : Str} {pos p2 : Pos} {Q : VK} (O : Ok C CV cl n sc X W) (a : PE X e (tE X.K W CV (ev cl m))) (hn : nst e = true) (hg : glB sc x = true) (hd : dbg x = true) (I : Inv X pins σ H s) (he : EnvOk X.K H ρ S.length en σ) (sim : Sim X.K ρ S H)
    (g : G X.K W CV σ ρ S H ((ev cl m en S).bind fun y S => (isxV (yesX C [x]) (noX C [x]) y S).bind fun b S => okP (.bool b) S) (QV X.K Q)) :
    wpAny (model X.prog X.w) X.A (callWith pos (.builtin "isinstance") [] (backTo pos (starEach [e, .Name x p2] X.env)) (backToKw pos (keywordEach [] X.env))) (EP X pins σ Q) X.xe s := by
  have hnm : x ≠ "__name__" := by
    unfold dbg at hd; simp only [Bool.and_eq_true, Bool.not_eq_true', decide_eq_false_iff_not] at hd; exact hd.2
  have pa := pa_cons a (pa_cons (pe_nm (p := p2) (O.glo _ hg) hd hnm) pa_nil (starE rfl)) (starE hn)
  refine PyProof.Rows.callWith_builtin1 (thn (pa.run _ pins s σ H (fun xs H1 => ∃ (c : Nat) (ad D : Addr) (p : Addr × Obj) (v : V) (cv : Value) (b : Bool), xs = [.ref ad, v] ∧ p ∈ X.pn ∧ L2H.Hot1 X.A p ∧ (xcP CV p).at' c ad ∧ CV c = .ref D ∧ L2.ExcC X.K D ∧ PySem.W.kitOne X.K (.ref D) cv = some b ∧ (∀ u, RelV v u → u = cv) ∧ Q (.bl b) H1) I
    ⟨en, ρ, S, he, sim, (G.bind g).imp fun px ρ1 S1 H1 e1 s1 g1 y ry => ?_⟩) fun us s1 ⟨xs, H1, I1, r, c, ad, D, p, v, cv, b, e, hp, hot, ha, hD, ex, hk, hu, q⟩ => ?_) (starE hn) (by rw [starE rfl]; rfl)
  · obtain ⟨c, ad, p, rfl, hp, hot, ha, hb, q⟩ := isx_tail (cs := []) O s1 rfl rfl ry g1
    obtain ⟨b, hb⟩ := hb x List.mem_cons_self
    obtain ⟨D, v, cv, hD, ex, hk, rv, hu, hm⟩ := O.isx _ _ _ hb
    refine ⟨v, cv, rv, hm, c, ad, D, p, v, cv, b, rfl, hp, hot, ha, hD, ex, hk, hu, ?_⟩
    have q := q _ Ext.refl s1
    rw [List.any_cons, List.any_nil, hb, Bool.or_false] at q
    have eb : (some b == some true) = b := by cases b <;> rfl
    rw [eb] at q
    exact q
  · subst e
    cases r with | cons r1 r2 =>
    cases r2 with | cons r2 r3 =>
    cases r3
    cases r1
    have := hu _ r2
    subst this
    obtain ⟨oe, J⟩ := exc_inst I1 hp hot ha hD
    exact PySem.W.kia_one (PySem.W.handS_kitx_exc ex.hg ex.hk ex.hs ex.hd ex.ha ex.hn ex.ht ex.hm) I1.kIn J hk (fun z => nomatch z) fun tk => ⟨.bl b, H1, I1.tok tk, rfl, q⟩
/-! a tuple of classes -/
structure NmAt (X : Cx) (x : Str) (v : V) (cv : Value) : Prop where
  rel : RelV v cv
  one : ∀ u, RelV v u → u = cv
  mg : X.mg x = some cv ∨ X.mg x = none ∧ bootBuiltins x = some cv
inductive NmsAt (X : Cx) : List Str → List V → List Value → Prop
  | nil : NmsAt X [] [] []
  | cons {x : Str} {v : V} {cv : Value} {xs : List Str} {vs : List V} {cvs : List Value} : NmAt X x v cv → NmsAt X xs vs cvs → NmsAt X (x :: xs) (v :: vs) (cv :: cvs)
theorem NmsAt.vals : ∀ {xs : List Str} {vs : List V} {cvs us : List Value}, NmsAt X xs vs cvs → Vals vs us → us = cvs
  | [], _, _, _, h, r => by cases h; cases r; rfl
  | _ :: _, _, _, _, h, r => by
    cases h with | cons a b =>
    cases r with | cons r1 r2 => rw [a.one _ r1, NmsAt.vals b r2]
theorem NmsAt.len : ∀ {xs : List Str} {vs : List V} {cvs : List Value}, NmsAt X xs vs cvs → vs.length = xs.length
  | [], _, _, h => by cases h; rfl
  | _ :: _, _, _, h => by cases h with | cons a b => simp [NmsAt.len b]
theorem trns_len {es : List Expr} {xs : List Str} (h : TrNs sc es xs) : es.length = xs.length := by
  induction h with
  | nil => rfl
  | cons _ _ _ ih => rw [List.length_cons, List.length_cons, ih]
theorem pa_nms {es : List Expr} {xs : List Str} (O : Ok C CV cl n sc X W) (h : TrNs sc es xs) : PA X es (fun _ H Q => ∃ vs cvs, NmsAt X xs vs cvs ∧ Q vs H) := by
  induction h with
  | nil => exact ⟨fun pos pins s σ H Q I ⟨vs, cvs, h, q⟩ => pa_nil.run pos pins s σ H Q I (by cases h; exact q)⟩
  | @cons x p es xs hg hd ht ih =>
    have hnm : x ≠ "__name__" := by
      unfold dbg at hd; simp only [Bool.and_eq_true, Bool.not_eq_true', decide_eq_false_iff_not] at hd; exact hd.2
    refine ⟨fun pos pins s σ H Q I ⟨vs, cvs, h, q⟩ => (pa_cons (pe_nm (O.glo _ hg) hd hnm) ih (starE rfl)).run pos pins s σ H Q I ?_⟩
    cases h with | cons a b => exact ⟨_, _, a.rel, a.mg, _, _, b, q⟩
theorem nms_of {c : Nat} {D : Addr} (O : Ok C CV cl n sc X W) (hD : CV c = .ref D) : ∀ {xs : List Str}, (∀ y ∈ xs, ∃ b, C.isx y c = some b) → ∃ vs cvs, NmsAt X xs vs cvs ∧ PySem.W.kitAny X.K (.ref D) cvs = some (xs.any fun y => C.isx y c == some true)
  | [], _ => ⟨[], [], .nil, rfl⟩
  | y :: xs, h => by
    obtain ⟨vs, cvs, h1, h2⟩ := nms_of O hD (xs := xs) fun z hz => h z (List.mem_cons_of_mem _ hz)
    obtain ⟨b, hb⟩ := h y List.mem_cons_self
    obtain ⟨D', v, cv, hD', ex, hk, rv, hu, hm⟩ := O.isx _ _ _ hb
    rw [hD] at hD'
    cases hD'
    refine ⟨v :: vs, cv :: cvs, .cons ⟨rv, hu, hm⟩ h1, ?_⟩
    rw [List.any_cons, hb]
    unfold PySem.W.kitAny
    rw [hk]
    cases b with
    | true => rfl
    | false => exact h2
theorem isx_tup {e : Expr} {m : Ex} {xs : List Str} {es : List Expr} {k : Nat} {pos p2 : Pos} {Q : VK} (O : Ok C CV cl n sc X W) (a : PE X e (tE X.K W CV (ev cl m))) (hn : nst e = true) (ht : TrNs sc es xs) (hl : es.length ≤ 1000) (he0 : xs.isEmpty = false) (I : Inv X pins σ H s) (he : EnvOk X.K H ρ S.length en σ) (sim : Sim X.K ρ S H)
    (g : G X.K W CV σ ρ S H ((ev cl m en S).bind fun y S => (isxV (yesX C xs) (noX C xs) y S).bind fun b S => okP (.bool b) S) (QV X.K Q)) :
    wpAny (model X.prog X.w) X.A (callWith pos (.builtin "isinstance") [] (backTo pos (starEach [e, .Tuple es k p2] X.env)) (backToKw pos (keywordEach [] X.env))) (EP X pins σ Q) X.xe s := by
  have pa := pa_cons a (pa_cons (pe_tup (x1 := k) (pos := p2) (pa_nms O ht)) pa_nil (starE rfl)) (starE hn)
  refine PyProof.Rows.callWith_builtin1 (thn (pa.run _ pins s σ H (fun vs H1 => ∃ (c : Nat) (ad D tp : Addr) (p : Addr × Obj) (ws : List V) (cvs : List Value) (b : Bool), vs = [.ref ad, .ref tp] ∧ p ∈ X.pn ∧ L2H.Hot1 X.A p ∧ (xcP CV p).at' c ad ∧ CV c = .ref D ∧ L2.ExcC X.K D ∧ NmsAt X xs ws cvs ∧ PySem.W.kitAny X.K (.ref D) cvs = some b ∧ H1 tp = some (.tup ws) ∧ Q (.bl b) H1) I
    ⟨en, ρ, S, he, sim, (G.bind g).imp fun px ρ1 S1 H1 e1 s1 g1 y ry => ?_⟩) fun us s1 ⟨vs, H1, I1, r, c, ad, D, tp, p, ws, cvs, b, e, hp, hot, ha, hD, ex, hm, hk, htp, q⟩ => ?_) (starE hn) (by rw [starE rfl]; rfl)
  · obtain ⟨c, ad, p, rfl, hp, hot, ha, hb, q⟩ := isx_tail (cs := []) O s1 rfl rfl ry g1
    cases xs with
    | nil => cases he0
    | cons x0 xr =>
      obtain ⟨b0, hb0⟩ := hb x0 List.mem_cons_self
      obtain ⟨D, _, _, hD, ex, _⟩ := O.isx _ _ _ hb0
      obtain ⟨ws, cvs, hm, hk⟩ := nms_of O hD hb
      refine ⟨ws, cvs, hm, ?_, fun tp htp => ?_⟩
      · rw [hm.len, ← trns_len ht]
        exact Nat.le_trans hl (by decide)
      · obtain ⟨s2, e2⟩ := s1.laid (o := .tup ws) htp
        exact ⟨c, ad, D, tp, p, ws, cvs, _, rfl, hp, hot, ha, hD, ex, hm, hk, upd_same, q _ e2 s2⟩
  · subst e
    cases r with | cons r1 r2 =>
    cases r2 with | cons r2 r3 =>
    cases r3
    cases r1
    cases r2
    obtain ⟨its, hv, ⟨o, hget, hcls, nn, hdat⟩, _⟩ := I1.tuple (SqT.of htp)
    obtain ⟨ocls, odict, odata, oslots⟩ := o
    dsimp only at hcls hdat
    subst hcls hdat
    have := hm.vals hv
    subst this
    obtain ⟨oe, J⟩ := exc_inst I1 hp hot ha hD
    exact PySem.W.kia_tup (PySem.W.handS_kitx_exc ex.hg ex.hk ex.hs ex.hd ex.ha ex.hn ex.ht ex.hm) I1.kIn J hget hk (fun z => nomatch z) fun tk => ⟨.bl b, H1, I1.tok tk, rfl, q⟩
end
end Kp

set_option Elab.async false
set_option linter.all false
set_option maxRecDepth 100000
set_option maxHeartbeats 8000000
set_option autoImplicit false
/-! K9: every expression. -/
namespace Kp
open PySem PySem.Spec PyProof.Rows L2
variable [Xc]
section
variable {C : TC} {CV : Nat → Value} {cl : Cl} {n : Nat}
theorem dbg3 {x : Str} (h : dbg x = true) : x ≠ "__name__" := by
  unfold dbg at h; simp only [Bool.and_eq_true, Bool.not_eq_true', decide_eq_false_iff_not] at h; exact h.2
theorem Sound.mk {X : Cx} {W : WX} {e : Expr} {m : Ex} (h : PE X e (tE X.K W CV (ev cl m))) (hp : plE e = true) (hm : plM m = true) : Sound C CV cl n X W e m := ⟨h, pt_plain h hp hm⟩
mutual
theorem sndE : ∀ {sc : Scope} {e : Expr} {m : Ex}, TrE C sc e m → ∀ {X : Cx} {W : WX}, Ok C CV cl n sc X W → Sound C CV cl n X W e m
  | _, _, _, .v hN hv hd, X, W, O => by
    refine Sound.mk ?_ rfl rfl
    refine ⟨fun pins s σ H Q I hq => ?_⟩
    refine (pe_var (by rw [O.N]; exact hN) (O.vis _ hv) (dbg1 hd) (dbg2 hd)).run pins s σ H Q I ?_
    obtain ⟨en, ρ, S, he, sim, g⟩ := hq
    simp only [ev] at g
    split at g
    · rename_i x hx
      obtain ⟨v, e1, r⟩ := he.get _ _ hx
      exact ⟨v, e1, g ρ H Ext.refl sim v r⟩
    · exact g.elim
  | _, _, _, .int, X, W, O => by
    exact Sound.mk ⟨fun pins s σ H Q I ⟨en, ρ, S, he, sim, g⟩ => pe_int.run pins s σ H Q I (by simp only [ev] at g; exact g ρ H Ext.refl sim _ (.p (.int _)))⟩ rfl rfl
  | _, _, _, .bl, X, W, O => by
    exact Sound.mk ⟨fun pins s σ H Q I ⟨en, ρ, S, he, sim, g⟩ => pe_bl.run pins s σ H Q I (by simp only [ev] at g; exact g ρ H Ext.refl sim _ (.p (.bl _)))⟩ rfl rfl
  | _, _, _, .non, X, W, O => by
    exact Sound.mk ⟨fun pins s σ H Q I ⟨en, ρ, S, he, sim, g⟩ => pe_non.run pins s σ H Q I (by simp only [ev] at g; exact g ρ H Ext.refl sim _ (.p .non))⟩ rfl rfl
  | _, _, _, .str, X, W, O => by
    exact Sound.mk ⟨fun pins s σ H Q I ⟨en, ρ, S, he, sim, g⟩ => pe_str.run pins s σ H Q I (by simp only [ev] at g; exact g ρ H Ext.refl sim _ (.p (.str _)))⟩ rfl rfl
  | _, _, _, .glob hg hd hc, X, W, O => by
    obtain ⟨v, u, hm, r, rp⟩ := O.cst _ _ hc
    exact Sound.mk ⟨fun pins s σ H Q I ⟨en, ρ, S, he, sim, g⟩ => (pe_glob (O.glo _ hg) hm r (dbg1 hd)).run pins s σ H Q I (by simp only [ev] at g; exact g ρ H Ext.refl sim _ (.p (rp H)))⟩ rfl rfl
  | _, _, _, .bin ha hb, X, W, O => by
    have a := (sndE ha O).1
    have b := (sndE hb O).1
    refine Sound.mk ?_ rfl rfl
    refine ⟨fun pins s σ H Q I ⟨en, ρ, S, he, sim, g⟩ => ?_⟩
    simp only [ev] at g
    exact wpAny_BinOp (thn (ev1 a I he sim g) fun v s1 ⟨x, H1, ρ1, S1, px, A1, rv, rx, g1⟩ => thn (ev1 b A1.inv (he.ext A1.ext) A1.sim g1) fun u s2 ⟨y, H2, ρ2, S2, py, A2, ru, ry, g2⟩ =>
      bin_ok A2.inv A2.sim (rx.ext A2.ext) ry rv ru g2)
  | _, _, _, .cmp ha hb hs, X, W, O => by
    have a := (sndE ha O).1
    have b := (sndE hb O).1
    refine ⟨⟨fun pins s σ H Q I ⟨en, ρ, S, he, sim, g⟩ => ?_⟩, ⟨fun pins s σ H Q I ⟨en, ρ, S, he, sim, g⟩ => ?_⟩⟩
    · simp only [ev] at g
      refine wpAny_Compare1 (thn (ev1 a I he sim g) fun v s1 ⟨x, H1, ρ1, S1, px, A1, rv, rx, g1⟩ => thn (ev1 b A1.inv (he.ext A1.ext) A1.sim g1) fun u s2 ⟨y, H2, ρ2, S2, py, A2, ru, ry, g2⟩ => ?_) (behind_ns hs)
      refine thn (cmp_ok (Q := fun k H3 => Q (.bl k) H3) O.hu A2.inv A2.sim (rx.ext A2.ext) ry rv ru ((G.bind g2).imp fun k ρ3 S3 H3 e3 s3 g3 => G.okp g3 s3 (.bl k))) fun c s3 hc => ?_
      obtain ⟨z, H3, I3, r3, k, e, q⟩ := hc
      subst e
      exact ⟨_, H3, I3, r3, q⟩
    · simp only [evT] at g
      refine wpAny_isTrue_Compare1 (thn (ev1 a I he sim g) fun v s1 ⟨x, H1, ρ1, S1, px, A1, rv, rx, g1⟩ => thn (ev1 b A1.inv (he.ext A1.ext) A1.sim g1) fun u s2 ⟨y, H2, ρ2, S2, py, A2, ru, ry, g2⟩ => ?_) (behind_ns hs)
      refine thn (cmp_ok (Q := Q) O.hu A2.inv A2.sim (rx.ext A2.ext) ry rv ru g2) fun c s3 hc => ?_
      obtain ⟨z, H3, I3, r3, k, e, q⟩ := hc
      subst e
      cases r3
      exact wpAny_truthy_bool ⟨H3, I3, q⟩
  | _, _, _, .neg ha, X, W, O => by
    have a := (sndE ha O).1
    refine ⟨⟨fun pins s σ H Q I ⟨en, ρ, S, he, sim, g⟩ => ?_⟩, ⟨fun pins s σ H Q I ⟨en, ρ, S, he, sim, g⟩ => ?_⟩⟩
    · simp only [ev] at g
      refine UnaryOp_ (thn (ev1 a I he sim g) fun v s1 ⟨x, H1, ρ1, S1, px, A1, rv, rx, g1⟩ => ?_)
      split at g1
      · cases rx with | p r =>
        cases r
        exact un_neg pins s1 σ H1 _ v Q A1.inv rv ⟨_, rfl, G.okp g1 A1.sim (.int _)⟩
      · exact g1.elim
    · simp only [evT] at g; exact g.elim
  | _, _, _, .not' ha, X, W, O => by
    have a := (sndE ha O).1
    have t := (sndE ha O).2
    refine ⟨⟨fun pins s σ H Q I ⟨en, ρ, S, he, sim, g⟩ => ?_⟩, ⟨fun pins s σ H Q I ⟨en, ρ, S, he, sim, g⟩ => ?_⟩⟩
    · simp only [ev] at g
      refine UnaryOp_ (thn (ev1 a I he sim g) fun v s1 ⟨x, H1, ρ1, S1, px, A1, rv, rx, g1⟩ => ?_)
      refine not_of (thn (tru_ok pins s1 σ H1 x v (fun c H2 => Q (.bl (!c)) H2) A1.inv rv (tru_okV A1.sim rx ((G.bind g1).imp fun b ρ2 S2 H2 e2 s2 g2 => G.okp g2 s2 (.bl (!b))))) fun c s2 ⟨H2, I2, q2⟩ => ⟨.bl (!c), H2, I2, rfl, q2⟩)
    · simp only [evT] at g
      refine isTrue_not (thn (evT1 t I he sim g) fun b s1 ⟨H1, ρ1, S1, A1, g1⟩ => ⟨H1, A1.inv, G.okb g1 A1.sim⟩)
  | _, _, _, .ife ht ha hb, X, W, O => by
    have t := (sndE ht O).2
    have a := (sndE ha O).1
    have b := (sndE hb O).1
    refine ⟨⟨fun pins s σ H Q I ⟨en, ρ, S, he, sim, g⟩ => ?_⟩, ⟨fun pins s σ H Q I ⟨en, ρ, S, he, sim, g⟩ => ?_⟩⟩
    · simp only [ev] at g
      refine wpAny_IfExp (thn (evT1 t I he sim g) fun c s1 ⟨H1, ρ1, S1, A1, g1⟩ => ?_)
      cases c with
      | true => exact a.run pins s1 σ H1 Q A1.inv ⟨en, ρ1, S1, he.ext A1.ext, A1.sim, g1⟩
      | false => exact b.run pins s1 σ H1 Q A1.inv ⟨en, ρ1, S1, he.ext A1.ext, A1.sim, g1⟩
    · simp only [evT] at g; exact g.elim
  | _, _, _, .and' hb, X, W, O => ⟨(sndB hb O _).1, (sndB hb O _).2.pt⟩
  | _, _, _, .or' hb, X, W, O => ⟨(sndB hb O _).1, (sndB hb O _).2.pt⟩
  | _, _, _, .tup hs hl, X, W, O => by
    have a := sndEs hs O
    refine ⟨⟨fun pins s σ H Q I ⟨en, ρ, S, he, sim, g⟩ => ?_⟩, ⟨fun pins s σ H Q I ⟨en, ρ, S, he, sim, g⟩ => ?_⟩⟩
    · simp only [ev] at g
      refine (pe_tup a).run pins s σ H Q I ⟨en, ρ, S, he, sim, (G.bind g).imp fun ps ρ1 S1 H1 e1 s1 g1 xs rx => ?_⟩
      unfold tupV at g1
      split at g1
      · rename_i hz
        refine ⟨by rw [← rx.length]; exact sz hz, fun p hp => ?_⟩
        have k := Keep.fresh (HO.tup xs) hp
        split at g1
        · rename_i ds hds
          have : ∀ {ps : List PV} {ds : List P} {xs : List V}, allP ps = some ds → RelQs X.K H1 ρ1 S1.length ps xs → RelPs X.K H1 ds xs := by
            intro ps
            induction ps with
            | nil => intro ds xs h r; cases h; cases r; exact .nil
            | cons q ps IH =>
              intro ds xs h r
              cases r with | cons r1 r2 =>
              cases r1 with
              | p r1 =>
                unfold allP at h
                cases hq : allP ps with
                | none => rw [hq] at h; cases h
                | some es => rw [hq] at h; cases h; exact .cons r1 (IH hq r2)
              | loc _ => cases h
              | mt _ _ => cases h
              | exc _ => cases h
          exact g1 ρ1 _ (s1.laid hp).2 (s1.laid hp).1 _ (.p (.tup (SqT.of upd_same) ((this hds rx).keep k)))
        · exact g1 ρ1 _ (s1.laid hp).2 (s1.laid hp).1 _ (.mt (SqT.of upd_same) (rx.mono k (Nat.le_refl _) fun _ _ => rfl))
      · exact g1.elim
    · simp only [evT] at g; exact g.elim
  | _, _, _, .lst hs, X, W, O => by
    have a := sndEs hs O
    refine ⟨⟨fun pins s σ H Q I ⟨en, ρ, S, he, sim, g⟩ => ?_⟩, ⟨fun pins s σ H Q I ⟨en, ρ, S, he, sim, g⟩ => ?_⟩⟩
    · simp only [ev] at g
      refine (pe_lst a).run pins s σ H Q I ⟨en, ρ, S, he, sim, (G.bind g).imp fun ps ρ1 S1 H1 e1 s1 g1 xs rx => ?_⟩
      split at g1
      · rename_i ds hds
        have : ∀ {ps : List PV} {ds : List P} {xs : List V}, allP ps = some ds → RelQs X.K H1 ρ1 S1.length ps xs → RelPs X.K H1 ds xs := by
          intro ps
          induction ps with
          | nil => intro ds xs h r; cases h; cases r; exact .nil
          | cons q ps IH =>
            intro ds xs h r
            cases r with | cons r1 r2 =>
            cases r1 with
            | p r1 =>
              unfold allP at h
              cases hq : allP ps with
              | none => rw [hq] at h; cases h
              | some es => rw [hq] at h; cases h; exact .cons r1 (IH hq r2)
            | loc _ => cases h
            | mt _ _ => cases h
            | exc _ => cases h
        obtain ⟨z, q⟩ := G.newL g1 s1 (this hds rx)
        exact ⟨sz z, q⟩
      · exact g1.elim
    · simp only [evT] at g; exact g.elim
  | _, _, _, .dct0, X, W, O => by
    refine ⟨⟨fun pins s σ H Q I ⟨en, ρ, S, he, sim, g⟩ => ?_⟩, ⟨fun pins s σ H Q I ⟨en, ρ, S, he, sim, g⟩ => ?_⟩⟩
    · simp only [ev, evs, R.bind, dctV] at g
      refine pe_dnewK.run pins s σ H Q I fun p hp => ?_
      have e1 : (S ++ [Cell.dct []])[S.length]? = some (Cell.dct []) := by simp
      rw [e1] at g
      dsimp only at g
      have e2 : (S ++ [Cell.dct []]).set S.length (Cell.dct []) = S ++ [Cell.dct []] := by simp
      rw [e2] at g
      obtain ⟨s2, x2⟩ := sim.new (o := .dK []) (c := .dct []) hp ⟨[], upd_same, .nil⟩
      have z : RelQ X.K (upd H p (.dK [])) (put ρ S.length p) (S ++ [Cell.dct []]).length (.loc S.length) (.ref (put ρ S.length p S.length)) := .loc (by simp)
      rw [put_same] at z
      exact g _ _ x2 s2 _ z
    · simp only [evT] at g; exact g.elim
  | sc, _, _, .dct hd h15, X, W, O => by
    refine ⟨?_, ⟨fun pins s σ H Q I ⟨en, ρ, S, he, sim, g⟩ => ?_⟩⟩
    · exact dct_okD hd h15 (sndD hd O)
    · simp only [evT] at g; exact g.elim
  | _, _, _, .ix ha hb hs, X, W, O => by
    have a := (sndE ha O).1
    have b := (sndE hb O).1
    refine Sound.mk ?_ rfl rfl
    refine ⟨fun pins s σ H Q I ⟨en, ρ, S, he, sim, g⟩ => ?_⟩
    simp only [ev] at g
    exact Subscript_ (thn (ev1 a I he sim g) fun v s1 ⟨x, H1, ρ1, S1, px, A1, rv, rx, g1⟩ => thn (ev1 b A1.inv (he.ext A1.ext) A1.sim g1) fun u s2 ⟨y, H2, ρ2, S2, py, A2, ru, ry, g2⟩ =>
      ixtail_ok O.hu1 hs A2.inv A2.sim (rx.ext A2.ext) ry rv ru g2)
  | _, _, _, .sl ha hl hh, X, W, O => by
    have a := (sndE ha O).1
    have l := sndO hl O
    have h := sndO hh O
    refine ⟨⟨fun pins s σ H Q I ⟨en, ρ, S, he, sim, g⟩ => ?_⟩, ⟨fun pins s σ H Q I ⟨en, ρ, S, he, sim, g⟩ => ?_⟩⟩
    · simp only [ev] at g
      refine (pe_slice sl_all a l h).run pins s σ H Q I ⟨en, ρ, S, he, sim, (G.bind g).imp fun px ρ1 S1 H1 e1 s1 g1 x rx => ?_⟩
      refine ⟨en, ρ1, S1, he.ext e1, s1, (G.bind g1).imp fun lo ρ2 S2 H2 e2 s2 g2 => ?_⟩
      refine ⟨en, ρ2, S2, (he.ext e1).ext e2, s2, (G.bind g2).imp fun hi ρ3 S3 H3 e3 s3 g3 => ?_⟩
      exact sl_ok s3 ((rx.ext e2).ext e3) g3
    · simp only [evT] at g; exact g.elim
  | _, _, _, .rev ha, X, W, O => by
    have a := (sndE ha O).1
    refine ⟨⟨fun pins s σ H Q I ⟨en, ρ, S, he, sim, g⟩ => ?_⟩, ⟨fun pins s σ H Q I ⟨en, ρ, S, he, sim, g⟩ => ?_⟩⟩
    · simp only [ev] at g
      exact rev_ok a I he sim g
    · simp only [evT] at g; exact g.elim
  | _, _, _, .call hh hg hd hf hs, X, W, O => by
    have a := sndEs hs O
    refine Sound.mk ?_ rfl rfl
    have hn := hs
    cases hn with | cons h1 h2 =>
    cases hot : C.hot with
    | false =>
      obtain ⟨f, fd, ps, hm, hk, hb, F⟩ := O.fn _ _ hf
      refine ⟨fun pins s σ H Q I ⟨en, ρ, S, he, sim, g⟩ => ?_⟩
      simp only [ev] at g
      refine wpAny_Call_Name_kw (ld_glob I (O.glo _ hg) hm ?_ (dbg1 hd))
      refine PySem.W.callWith_K (h₀ := X.base) I.ok.mod.kin hk (thn (evs1 a I he sim g) fun us s1 ⟨xs, H1, ρ1, S1, ps, A1, r, rx, g1⟩ => ⟨A1.inv.kIn, ?_⟩) (starE h1.nst) h2.plain
      exact run_fnS (E := WE W) F (O.room hot) hb (L2N.passAt O.takes σ) A1.inv r ⟨ρ1, S1, ps, A1.sim, relQs_cold (O.cold hot) rx, G_cold g1⟩
    | true =>
      obtain ⟨f, fd, ps, hm, hk, hb, F⟩ := O.fnH _ _ hf (by rw [hot] at hh; simpa using hh)
      obtain ⟨p, hp, hpn, e⟩ := O.warm hot
      refine ⟨fun pins s σ H Q I ⟨en, ρ, S, he, sim, g⟩ => ?_⟩
      simp only [ev] at g
      refine wpAny_Call_Name_kw (ld_glob I (O.glo _ hg) hm ?_ (dbg1 hd))
      refine PySem.W.callWith_K (h₀ := X.base) I.ok.mod.kin hk (thn (evs1 a I he sim g) fun us s1 ⟨xs, H1, ρ1, S1, ps, A1, r, rx, g1⟩ => ⟨A1.inv.kIn, ?_⟩) (starE h1.nst) h2.plain
      exact run_fnX (E := WE W) F (O.roomH hot) hp hpn hb (L2N.passAt O.takes σ) A1.inv r (e ▸ ⟨ρ1, S1, ps, A1.sim, rx, g1⟩)
  | _, _, _, .call0 hh hg hd hf, X, W, O => by
    refine Sound.mk ?_ rfl rfl
    cases hot : C.hot with
    | false =>
      obtain ⟨f, fd, ps, hm, hk, hb, F⟩ := O.fn _ _ hf
      refine ⟨fun pins s σ H Q I ⟨en, ρ, S, he, sim, g⟩ => ?_⟩
      simp only [ev, evs] at g
      refine wpAny_Call_Name_kw (ld_glob I (O.glo _ hg) hm ?_ (dbg1 hd))
      exact PySem.W.callWith_K0 I.kIn hk (run_fnS (us := []) (E := WE W) F (O.room hot) hb (L2N.passAt O.takes σ) I .nil ⟨ρ, S, [], sim, @RelQs.nil xc0 _ _ _ _, G_cold g⟩)
    | true =>
      obtain ⟨f, fd, ps, hm, hk, hb, F⟩ := O.fnH _ _ hf (by rw [hot] at hh; simpa using hh)
      obtain ⟨p, hp, hpn, e⟩ := O.warm hot
      refine ⟨fun pins s σ H Q I ⟨en, ρ, S, he, sim, g⟩ => ?_⟩
      simp only [ev, evs] at g
      refine wpAny_Call_Name_kw (ld_glob I (O.glo _ hg) hm ?_ (dbg1 hd))
      exact PySem.W.callWith_K0 I.kIn hk (run_fnX (us := []) (E := WE W) F (O.roomH hot) hp hpn hb (L2N.passAt O.takes σ) I .nil (e ▸ ⟨ρ, S, [], sim, .nil, g⟩))
  | _, _, _, .bi hh hb hr hg hf hs, X, W, O => by
    have a := sndEs hs O
    obtain ⟨b1, b2, b3⟩ := bi_boot hb
    refine Sound.mk ?_ rfl rfl
    refine ⟨fun pins s σ H Q I ⟨en, ρ, S, he, sim, g⟩ => ?_⟩
    simp only [ev] at g
    refine wpAny_Call_Name_kw (ld_blt I (O.glo _ hg) (O.fre _ hf) b1 ?_ b2 b3)
    have hn := hs
    cases hn with | cons h1 h2 =>
    exact PyProof.Rows.callWith_builtin1 (thn (evs1 a I he sim g) fun us s1 ⟨xs, H1, ρ1, S1, ps, A1, r, rx, g1⟩ => bi_ok (fun hq => O.calm (by rw [hq] at hh; simpa using hh)) hb A1.inv A1.sim rx r g1) (starE h1.nst) h2.plain
  | _, _, _, .mxd hh hg hf ha hd, X, W, O => by
    have a := (sndE ha O).1
    have d := (sndE hd O).1
    have hs := ha.nst
    refine Sound.mk ?_ rfl rfl
    refine ⟨fun pins s σ H Q I ⟨en, ρ, S, he, sim, g⟩ => ?_⟩
    simp only [ev] at g
    rw [evs2] at g
    refine (pe_callBK (cr_maxD (O.calm hh) (by have := O.hu; omega)) (O.glo _ hg) (O.fre _ hf) (by decide +kernel) (pa_cons a pa_nil (starE hs)) (pk_cons d pk_nil) (by decide +kernel) (by decide +kernel) (by rw [starE hs]; rfl) (by rw [starE hs]; rfl)).run pins s σ H Q I ?_
    exact ⟨en, ρ, S, he, sim, (G.bind g).imp fun px ρ1 S1 H1 e1 s1 g1 x rx => ⟨en, ρ1, S1, he.ext e1, s1, (G.bind g1).imp fun py ρ2 S2 H2 e2 s2 g2 y ry => maxd_G s2 (rx.ext e2) ry g2⟩⟩
  | _, _, _, .bt hh hb hg hf hs, X, W, O => by
    have a := sndEs hs O
    obtain ⟨b1, b2, b3⟩ := bt_boot hb
    refine Sound.mk ?_ rfl rfl
    refine ⟨fun pins s σ H Q I ⟨en, ρ, S, he, sim, g⟩ => ?_⟩
    simp only [ev] at g
    refine wpAny_Call_Name_kw (ld_blt I (O.glo _ hg) (O.fre _ hf) b1 ?_ b2 b3)
    have hn := hs
    cases hn with | cons h1 h2 =>
    exact PyProof.Rows.callWith_type1 (thn (evs1 a I he sim g) fun us s1 ⟨xs, H1, ρ1, S1, ps, A1, r, rx, g1⟩ => bt_ok (fun hq => O.calm (by rw [hq] at hh; simpa using hh)) hb A1.inv A1.sim rx r g1) (starE h1.nst) h2.plain
  | _, _, _, .mth ho hs hl h20 hb hline, X, W, O => by
    have h := mth_ok O (sndE ho O).1 (sndEs hs O) hs hl h20 hb hline
    exact Sound.mk h rfl rfl
  | _, _, _, .isi (t := t) (p2 := p2) hg hf hg2 hf2 ha, X, W, O => by
    have a := (sndE ha O).1
    obtain ⟨t1, t2, t3⟩ := ty_boot t
    refine Sound.mk ?_ rfl rfl
    refine ⟨fun pins s σ H Q I ⟨en, ρ, S, he, sim, g⟩ => ?_⟩
    simp only [ev] at g
    refine wpAny_Call_Name_kw (ld_blt I (O.glo _ hg) (O.fre _ hf) (show bootBuiltins ("isinstance" : Str) = some (.builtin "isinstance") from by decide +kernel) ?_ (by decide +kernel) (by decide +kernel))
    have pty : PE X (.Name (tyId t : Str) p2) (tC (.ty (tyId t))) := pe_bltn (O.glo _ hg2) (O.fre _ hf2) t1 rfl t2 t3
    have pa := pa_cons a (pa_cons pty pa_nil (starE rfl)) (starE ha.nst)
    refine PyProof.Rows.callWith_builtin1 (thn (pa.run _ pins s σ H (fun xs H1 => ∃ ρ1 S1 px x, xs = [x, .ty (tyId t)] ∧ Sim X.K ρ1 S1 H1 ∧ RelQ X.K H1 ρ1 S1.length px x ∧ G X.K W CV σ ρ1 S1 H1 ((isiV t px S1).bind fun b S => okP (.bool b) S) (QV X.K Q)) I
      ⟨en, ρ, S, he, sim, (G.bind g).imp fun px ρ1 S1 H1 e1 s1 g1 x rx => ⟨ρ1, S1, px, x, rfl, s1, rx, g1⟩⟩) fun us s1 ⟨xs, H1, I1, r, ρ1, S1, px, x, e, sm, rx, g1⟩ => ?_) (starE ha.nst) (by rw [starE rfl]; rfl)
    subst e
    refine thn (isi_ok (Q := fun k H3 => Q (.bl k) H3) I1 sm rx r ((G.bind g1).imp fun k ρ3 S3 H3 e3 s3 g3 => G.okp g3 s3 (.bl k))) fun c s3 hc => ?_
    obtain ⟨z, H3, I3, r3, k, e, q⟩ := hc
    subst e
    exact ⟨_, H3, I3, r3, q⟩
  | _, _, _, .isx hg hf ha hg2 hd2, X, W, O => by
    have a := (sndE ha O).1
    refine Sound.mk ?_ rfl rfl
    refine ⟨fun pins s σ H Q I ⟨en, ρ, S, he, sim, g⟩ => ?_⟩
    simp only [ev] at g
    refine wpAny_Call_Name_kw (ld_blt I (O.glo _ hg) (O.fre _ hf) (show bootBuiltins ("isinstance" : Str) = some (.builtin "isinstance") from by decide +kernel) ?_ (by decide +kernel) (by decide +kernel))
    exact isx_one O a ha.nst hg2 hd2 I he sim g
  | _, _, _, .isxT hg hf ha hn hl h0, X, W, O => by
    have a := (sndE ha O).1
    refine Sound.mk ?_ rfl rfl
    refine ⟨fun pins s σ H Q I ⟨en, ρ, S, he, sim, g⟩ => ?_⟩
    simp only [ev] at g
    refine wpAny_Call_Name_kw (ld_blt I (O.glo _ hg) (O.fre _ hf) (show bootBuiltins ("isinstance" : Str) = some (.builtin "isinstance") from by decide +kernel) ?_ (by decide +kernel) (by decide +kernel))
    exact isx_tup O a ha.nst hn hl h0 I he sim g
  | _, _, _, .comp (sc' := sc') (i := i) hh hi hblk hloc hN hc he, X, W, O => by
    have hI := snd_I2 hi O
    refine ⟨⟨fun pins s σ H Q I hq => ?_⟩, ⟨fun pins s σ H Q I ⟨en, ρ, S, he, sim, g⟩ => ?_⟩⟩
    · refine (pe_lc (own := [(_, i)]) (O.calm hh) (by rw [O.N]; exact O.nd) hI (O.bok hblk) (g := gName i) (tt := tT X.K W0 CV (evC cl _)) (te := tE X.K W0 CV (ev cl _)) (fun s H D cl' fp => ?_) (fun s H D cl' fp => ?_) (fun s H D cl' fp => ?_) (folded_ns (snd_ns hi))).run pins s σ H Q I (comp_ok σ H Q hq)
      · have O2 := O.blk (sc' := sc') hh s H D cl' fp
        exact pg_name (X := X.blk s H sc' (compEnvC sc' cl' D X.env) fp) (by show X.N.Nodup; rw [O.N]; exact O.nd) (by show X.N[i]? = _; rw [O.N]; exact hN) (O2.loc _ hloc).1 (O2.loc _ hloc).2
      · exact sndC hc (O.blk (sc' := sc') hh s H D cl' fp)
      · exact (sndE he (O.blk (sc' := sc') hh s H D cl' fp)).1
    · simp only [evT] at g; exact g.elim
theorem sndB : ∀ {sc : Scope} {op : PySem.BoolOp} {l : List Expr} {m : Ex}, TrB C sc op l m → ∀ {X : Cx} {W : WX}, Ok C CV cl n sc X W → ∀ pos, PE X (.BoolOp op l pos) (tE X.K W CV (ev cl m)) ∧ PW X (.BoolOp op l pos) (tT X.K W CV (evT cl m))
  | _, .And, _, _, .one ha, X, W, O, pos => by
    have a := sndE ha O
    refine ⟨pe_one a.1, ⟨fun wh pins s σ H Q I h => ?_⟩⟩
    exact (pw_and1 (pos := pos) a.2).run wh pins s σ H Q I h
  | _, .Or, _, _, .one ha, X, W, O, pos => by
    have a := sndE ha O
    refine ⟨pe_one a.1, ⟨fun wh pins s σ H Q I h => ?_⟩⟩
    exact (pw_or1 (pos := pos) a.2).run wh pins s σ H Q I h
  | _, _, _, _, .and' ha hb, X, W, O, pos => by
    have a := sndE ha O
    have b := sndB hb O pos
    refine ⟨⟨fun pins s σ H Q I ⟨en, ρ, S, he, sim, g⟩ => ?_⟩, ⟨fun wh pins s σ H Q I ⟨en, ρ, S, he, sim, g⟩ => ?_⟩⟩
    · simp only [ev] at g
      refine (pe_and a.1 b.1).run pins s σ H Q I ⟨en, ρ, S, he, sim, (G.bind g).imp fun px ρ1 S1 H1 e1 s1 g1 x rx => ?_⟩
      split at g1
      · rename_i c
        cases rx with | p r =>
        cases r
        refine ⟨c, rfl, ?_⟩
        cases c with
        | true => exact ⟨en, ρ1, S1, he.ext e1, s1, g1⟩
        | false => exact G.okp g1 s1 (.bl false)
      · exact g1.elim
    · simp only [evT] at g
      refine (pw_and a.2 b.2).run wh pins s σ H Q I ⟨en, ρ, S, he, sim, (G.bind g).imp fun c ρ1 S1 H1 e1 s1 g1 => ?_⟩
      cases c with
      | true => exact ⟨en, ρ1, S1, he.ext e1, s1, g1⟩
      | false => exact G.okb g1 s1
  | _, _, _, _, .or' ha hb, X, W, O, pos => by
    have a := sndE ha O
    have b := sndB hb O pos
    refine ⟨⟨fun pins s σ H Q I ⟨en, ρ, S, he, sim, g⟩ => ?_⟩, ⟨fun wh pins s σ H Q I ⟨en, ρ, S, he, sim, g⟩ => ?_⟩⟩
    · simp only [ev] at g
      refine (pe_or a.1 b.1).run pins s σ H Q I ⟨en, ρ, S, he, sim, (G.bind g).imp fun px ρ1 S1 H1 e1 s1 g1 x rx => ?_⟩
      split at g1
      · rename_i c
        cases rx with | p r =>
        cases r
        refine ⟨c, rfl, ?_⟩
        cases c with
        | false => exact ⟨en, ρ1, S1, he.ext e1, s1, g1⟩
        | true => exact G.okp g1 s1 (.bl true)
      · exact g1.elim
    · simp only [evT] at g
      refine (pw_or a.2 b.2).run wh pins s σ H Q I ⟨en, ρ, S, he, sim, (G.bind g).imp fun c ρ1 S1 H1 e1 s1 g1 => ?_⟩
      cases c with
      | false => exact ⟨en, ρ1, S1, he.ext e1, s1, g1⟩
      | true => exact G.okb g1 s1
theorem sndEs : ∀ {sc : Scope} {es : List Expr} {ms : Exs}, TrEs C sc es ms → ∀ {X : Cx} {W : WX}, Ok C CV cl n sc X W → PA X es (tA X.K W CV (evs cl ms))
  | _, _, _, .nil, X, W, O => ⟨fun pos pins s σ H Q I ⟨en, ρ, S, he, sim, g⟩ => pa_nil.run pos pins s σ H Q I (by simp only [evs] at g; exact g ρ H Ext.refl sim _ .nil)⟩
  | _, _, _, .cons ha hs, X, W, O => by
    have a := (sndE ha O).1
    have b := sndEs hs O
    refine ⟨fun pos pins s σ H Q I ⟨en, ρ, S, he, sim, g⟩ => ?_⟩
    simp only [evs] at g
    refine (pa_cons a b (starE ha.nst)).run pos pins s σ H Q I ⟨en, ρ, S, he, sim, (G.bind g).imp fun px ρ1 S1 H1 e1 s1 g1 x rx => ?_⟩
    refine ⟨en, ρ1, S1, he.ext e1, s1, (G.bind g1).imp fun ps ρ2 S2 H2 e2 s2 g2 xs rxs => ?_⟩
    exact g2 ρ2 H2 Ext.refl s2 _ (.cons (rx.ext e2) rxs)
theorem sndO : ∀ {sc : Scope} {e : Option Expr} {m : Oe}, TrO C sc e m → ∀ {X : Cx} {W : WX}, Ok C CV cl n sc X W → PO X e (fun σ H Q => ∃ en ρ S, EnvOk X.K H ρ S.length en σ ∧ Sim X.K ρ S H ∧ G X.K W CV σ ρ S H (evO cl m en S) (fun b _ _ H' => Q b H'))
  | _, _, _, .non, X, W, O => ⟨fun pins s σ H Q I ⟨en, ρ, S, he, sim, g⟩ => po_none.run pins s σ H Q I (by simp only [evO] at g; exact g ρ H Ext.refl sim)⟩
  | _, _, _, .one ha, X, W, O => by
    have a := (sndE ha O).1
    refine ⟨fun pins s σ H Q I ⟨en, ρ, S, he, sim, g⟩ => ?_⟩
    simp only [evO] at g
    refine (po_some a).run pins s σ H Q I ⟨en, ρ, S, he, sim, (G.bind g).imp fun px ρ1 S1 H1 e1 s1 g1 x rx => ?_⟩
    split at g1
    · cases rx with | p r =>
      cases r
      exact ⟨_, rfl, g1 ρ1 H1 Ext.refl s1⟩
    · exact g1.elim
theorem sndC : ∀ {sc : Scope} {ifs : List Expr} {m : Oe}, TrC C sc ifs m → ∀ {X : Cx} {W : WX}, Ok C CV cl n sc X W → PTs X ifs (tT X.K W CV (evC cl m))
  | _, _, _, .non, X, W, O => ⟨fun pins s σ H Q I ⟨en, ρ, S, he, sim, g⟩ => wpAny_tests_nil ⟨H, I, G.okb g sim⟩⟩
  | _, _, _, .one ha, X, W, O => pts_one (sndE ha O).2
theorem sndD : ∀ {sc : Scope} {keys : List (Option Expr)} {es : List Expr} {ks : List Str} {ms : Exs}, TrD C sc keys es ks ms → ∀ {X : Cx} {W : WX}, Ok C CV cl n sc X W → ∀ pos,
    ∃ trs, PPs X pos keys es trs ∧ ∀ σ H Q, DP X W CV (evs cl ms) ks σ H Q → tPairs trs σ H Q
  | _, _, _, _, _, .nil, X, W, O, pos => by
    refine ⟨[], pps_nil, fun σ H Q ⟨en, ρ, S, he, sim, g⟩ => ?_⟩
    simp only [evs] at g
    exact (g ρ H Ext.refl sim [] .nil).2
  | _, _, _, _, _, .cons (k := k) h1 h2, X, W, O, pos => by
    obtain ⟨trs, hp, hq⟩ := sndD h2 O pos
    refine ⟨(tC (.str k), tE X.K W CV (ev cl _)) :: trs, pps_cons pe_str (sndE h1 O).1 hp, fun σ H Q ⟨en, ρ, S, he, sim, g⟩ => ?_⟩
    simp only [evs] at g
    show tE X.K W CV (ev cl _) σ H fun y H2 => tPairs trs σ H2 fun ps H3 => Q ((V.str k, y) :: ps) H3
    refine ⟨en, ρ, S, he, sim, (G.bind g).imp fun px ρ1 S1 H1 e1 s1 g1 y ry => ?_⟩
    refine hq σ H1 _ ⟨en, ρ1, S1, he.ext e1, s1, (G.bind g1).imp fun ps ρ2 S2 H2 e2 s2 g2 xs rxs => ?_⟩
    obtain ⟨l, q⟩ := g2 ρ2 H2 Ext.refl s2 (y :: xs) (.cons (ry.ext e2) rxs)
    exact ⟨by simpa using l, q⟩
theorem snd_I2 : ∀ {sc : Scope} {tg it : Expr} {m : Ix}, TrI C sc tg it m → ∀ {X : Cx} {W : WX}, Ok C CV cl n sc X W → PI X tg it (tI X.K W CV (evI cl m))
  | _, _, _, _, .val h hs, X, W, O => pi_val O (sndE h O).1
  | _, _, _, _, .rng1 hg hf h, X, W, O => pi_r1 O hg hf h (sndE h O).1
  | _, _, _, _, .rng2 hg hf h h2, X, W, O => pi_r2 O hg hf h h2 (sndE h O).1 (sndE h2 O).1
  | _, _, _, _, .zip hg hf h h2, X, W, O => pi_z O hg hf h h2 (sndE h O).1 (sndE h2 O).1
  | _, _, _, _, .revR hg hf hg2 hf2 h, X, W, O => pi_rr O hg hf hg2 hf2 h (sndE h O).1
  | _, _, _, _, .revL hg hf h, X, W, O => pi_rl O hg hf h (sndE h O).1
end
end
end Kp

set_option Elab.async false
set_option linter.all false
set_option maxRecDepth 100000
set_option maxHeartbeats 8000000
set_option autoImplicit false
/-! K10: statements. -/
namespace Kp
open PySem PySem.Spec PyProof.Rows L2
section
variable [Xc]
variable {K : PySem.W.Frag} {W : WX} {CV : Nat → Value} {σ : L2.St} {ρ : Nat → Addr} {S : Sto} {H : Hp} {en : En}
def GS (K : PySem.W.Frag) (W : WX) (CV : Nat → Value) (D : Ends) (ρ : Nat → Addr) (S : Sto) (H : Hp) (r : RS) : Prop := match r with
  | .nx en S' => ∀ ρ' H' σ', Ext ρ S H ρ' S' H' → Sim K ρ' S' H' → EnvOk K H' ρ' S'.length en σ' → D.nx σ' H'
  | .rt v S' => ∀ ρ' H' x, Ext ρ S H ρ' S' H' → Sim K ρ' S' H' → RelQ K H' ρ' S'.length v x → D.rt x H'
  | .ct en S' => ∀ ρ' H' σ', Ext ρ S H ρ' S' H' → Sim K ρ' S' H' → EnvOk K H' ρ' S'.length en σ' → D.ct σ' H'
  | .ex c en S' => ∀ ρ' H' σ', Ext ρ S H ρ' S' H' → Sim K ρ' S' H' → EnvOk K H' ρ' S'.length en σ' → W (CV c) none σ' H'
  | .no => False
theorem GS.from {D : Ends} {ρ1 : Nat → Addr} {S1 : Sto} {H1 : Hp} {r : RS} (h : GS K W CV D ρ S H r) (e : Ext ρ S H ρ1 S1 H1) : GS K W CV D ρ1 S1 H1 r := by
  cases r with
  | nx en S' => exact fun ρ' H' σ' e' s x => h ρ' H' σ' (e.trans e') s x
  | rt v S' => exact fun ρ' H' x e' s r => h ρ' H' x (e.trans e') s r
  | ct en S' => exact fun ρ' H' σ' e' s x => h ρ' H' σ' (e.trans e') s x
  | ex c en S' => exact fun ρ' H' σ' e' s x => h ρ' H' σ' (e.trans e') s x
  | no => exact h
theorem GS.st {α : Type} {D : Ends} {r : R α} {f : α → Sto → RS} (h : GS K W CV D ρ S H (r.st en f)) (he : EnvOk K H ρ S.length en σ) : G K W CV σ ρ S H r fun a ρ' S' H' => GS K W CV D ρ' S' H' (f a S') := by
  cases r with
  | ok a S' =>
    intro ρ' H' e s
    have h : GS K W CV D ρ S H (f a S') := h
    exact h.from e
  | ex c S' => exact fun ρ' H' e s => h ρ' H' σ e s (he.ext e)
  | no => exact h
def tS (K : PySem.W.Frag) (W : WX) (CV : Nat → Value) (f : En → Sto → RS) : TS := fun D σ H => ∃ en ρ S, EnvOk K H ρ S.length en σ ∧ Sim K ρ S H ∧ GS K W CV D ρ S H (f en S)
/-! targets -/
theorem env_fold {L : Nat} : ∀ {is : List Nat} {vs : List PV} {xs : List V} {en : En} {σ : L2.St}, EnvOk K H ρ L en σ → RelQs K H ρ L vs xs →
    EnvOk K H ρ L ((is.zip vs).foldl (fun e q => e.set q.1 (some q.2)) en) ((is.zip xs).foldl (fun e q => e.set q.1 (some q.2)) σ)
  | [], _, _, _, _, h, r => by simpa using h
  | _ :: _, [], _, _, _, h, r => by cases r; simpa using h
  | i :: is, v :: vs, _, en, σ, h, r => by
    cases r with | cons r1 r2 =>
    rw [List.zip_cons_cons, List.zip_cons_cons, List.foldl_cons, List.foldl_cons]
    exact env_fold (h.set r1) r2
theorem relPs_qs {L : Nat} : ∀ {ds : List P} {xs : List V}, RelPs K H ds xs → RelQs K H ρ L (ds.map .p) xs
  | [], _, h => by cases h; exact .nil
  | d :: ds, _, h => by
    cases h with | cons a b => exact .cons (.p a) (relPs_qs b)
def gNms (is : List Nat) : TGs := fun vs σ H Q => vs.length = is.length ∧ Q ((is.zip vs).foldl (fun e q => e.set q.1 (some q.2)) σ) H
theorem tgV_ok {tg : Tg} {v : PV} {en en' : En} {x : V} {Q : L2.St → Hp → Prop} (he : EnvOk K H ρ S.length en σ) (rx : RelQ K H ρ S.length v x) (h : tgV tg v en = some en') (q : ∀ σ', EnvOk K H ρ S.length en' σ' → Q σ' H) :
    (match tg with | .nm i => gName i | .tp is => gTup K is.length (gNms is)) x σ H Q := by
  cases tg with
  | nm i =>
    have h : some (en.set i (some v)) = some en' := h
    cases h
    exact q _ (he.set rx)
  | tp is =>
    unfold tgV at h
    dsimp only at h
    split at h
    · cases rx with | p r =>
      cases r with | tup a b =>
      split at h
      · rename_i hl
        cases h
        refine ⟨_, _, rfl, a, by rw [← b.length]; exact hl, by rw [← b.length]; exact hl, q _ ?_⟩
        have := env_fold (is := is) he (relPs_qs (ρ := ρ) (L := S.length) b)
        rw [List.zip_map_right, List.foldl_map] at this
        exact this
      · cases h
    · cases rx with | mt a b =>
      split at h
      · rename_i hl
        cases h
        exact ⟨_, _, rfl, a, by rw [← b.length]; exact hl, by rw [← b.length]; exact hl, q _ (env_fold he b)⟩
      · cases h
    · cases h
end
section
variable [Xc] {C : TC} {CV : Nat → Value} {cl : Cl} {n : Nat} {sc : Scope} {X : Cx} {W : WX}
theorem pgs_ok {es : List Expr} {is : List Nat} (O : Ok C CV cl n sc X W) (h : TrGs C sc es is) : PGs X es (gNms is) := by
  induction es generalizing is with
  | nil =>
    cases h
    refine ⟨fun pins s σ H vs us Q I r q => pgs_nil.run pins s σ H vs us Q I r ?_⟩
    obtain ⟨l, q⟩ := q
    have : vs = [] := List.eq_nil_of_length_eq_zero l
    subst this
    exact ⟨rfl, q⟩
  | cons e es IH =>
    cases h with
    | @cons x p i es is hN hl h2 =>
    have hd := pg_name (X := X) (pos := p) (i := i) (x := x) (by rw [O.N]; exact O.nd) (by rw [O.N]; exact hN) (O.loc _ hl).1 (O.loc _ hl).2
    refine ⟨fun pins s σ H vs us Q I r q => (pgs_cons hd (IH h2) rfl).run pins s σ H vs us Q I r ?_⟩
    obtain ⟨l, q⟩ := q
    cases vs with
    | nil => cases l
    | cons v vs => exact ⟨v, vs, rfl, by simpa using l, q⟩
theorem trgs_each {es : List Expr} {is : List Nat} {env : Env} (h : TrGs C sc es is) : (assignEach es env).length = is.length ∧ (assignEach es env).findIdx? (·.1) = none := by
  induction es generalizing is with
  | nil => cases h; exact ⟨rfl, rfl⟩
  | cons e es IH =>
    cases h with
    | cons hN hl h2 =>
    obtain ⟨a, b⟩ := IH h2
    refine ⟨?_, ?_⟩
    · show (assignEach es env).length + 1 = _
      rw [a]; rfl
    · show List.findIdx? (·.1) ((false, _) :: assignEach es env) = none
      rw [List.findIdx?_cons, b]; rfl
def kN (X : Cx) (tg : Tg) : TG := match tg with | .nm i => gName i | .tp is => gTup X.K is.length (gNms is)
theorem pg_ok {tg : Expr} {t : Tg} (O : Ok C CV cl n sc X W) (h : TrG C sc tg t) : PG X tg (kN X t) := by
  cases h with
  | nm hN hl => exact pg_name (by rw [O.N]; exact O.nd) (by rw [O.N]; exact hN) (O.loc _ hl).1 (O.loc _ hl).2
  | tp hh h2 => exact pg_tup (O.calm hh) (pgs_ok O h2) (trgs_each h2).1 (trgs_each h2).2
/-! o[i] = v -/
def tSetV (K : PySem.W.Frag) : TSet := fun o i v H Q => ∃ ρ S po pi pv, Sim K ρ S H ∧ RelQ K H ρ S.length po o ∧ RelQ K H ρ S.length pi i ∧ RelQ K H ρ S.length pv v ∧
  (match setV po pi pv S with | .ok _ S' => ∀ ρ' H', Ext ρ S H ρ' S' H' → Sim K ρ' S' H' → Q H' | _ => False)
theorem set_ok (hu : X.A.units + 1 < cLine) : PSet X (tSetV X.K) := by
  intro pins s σ H o i v ov iv u Q I ro ri rv h
  obtain ⟨ρ, S, po, pi, pv, sim, r1, r2, r3, g⟩ := h
  unfold setV at g
  split at g
  · rename_i r hr
    split at hr
    · cases r1 with | loc hl => cases r2 with | p r2 => cases r3 with | p r3 =>
      split at hr
      · rename_i l _ _ _ ds hd
        obtain ⟨xs, q1, rs⟩ := sim.lst hd
        split at hr
        · cases r2
          split at hr
          · rename_i j hj
            cases hr
            rw [rs.length] at hj
            refine set_list pins s σ H _ _ _ ov iv u Q I ro ri rv ⟨_, xs, _, j, rfl, rfl, q1, hj, ?_⟩
            have w := sim.write (i := l) (o := .lst (xs.set j v)) (c := .lst (ds.set j _)) hd ⟨_, upd_same, (rs.set j r3).keep (Keep.write _ q1 (fun z => z))⟩
            exact g ρ _ w.2 w.1
          · cases hr
        · cases hr
      · rename_i l _ _ _ ds hd
        obtain ⟨ws, q1, rs⟩ := sim.dct hd
        split at hr
        · rename_i k hk
          split at hr
          · rename_i c
            cases hr
            have ek := keyP_rel r2 hk
            subst ek
            obtain rfl : ov = Value.ref _ := ro
            refine d_setItem hu I (DPut.k (k := k) (v := v) q1 (by rw [← rs.length]; exact szl c)) ri rv fun s' I' => ⟨_, I', ?_⟩
            have w := sim.write (i := l) (o := .dK (putK ws k v)) (c := .dct (puK ds k _)) hd ⟨_, upd_same, (puK_eq rs r3).keep (Keep.write _ q1 (fun z => z))⟩
            exact g ρ _ w.2 w.1
          · cases hr
        · cases hr
      · cases hr
    · cases hr
  · exact g.elim
theorem sub_asg {o i : Expr} {pos : Pos} {env : Env} (h : isSl i = false) (v : Value) : assign (.Subscript o i pos) env v = (do
      let ov ← holding [v] (eval o env)
      let iv ← holding [v, ov] (eval i env)
      standAt pos
      holding [v, ov, iv] (setItem ov iv v)
      release [v, ov, iv] []) := by
  cases i <;> first | rfl | skip
  rename_i lo hi st p
  cases st with
  | none => cases h
  | some x => rfl
theorem sws_nl {t e : Expr} {l : Nat} {env : Env} (h : isLc e = false) : swapsWithSole [t] e l env = pure false := sw_nl h
theorem swst_nt {es : List Expr} {k : Nat} {p : Pos} {e : Expr} {env : Env} (h : isTup e = false) : swappedStores [.Tuple es k p] e env = pure none := by
  cases e <;> first | rfl | cases h
theorem swst_sub {o i : Expr} {p : Pos} {e : Expr} {env : Env} : swappedStores [.Subscript o i p] e env = pure none := by
  cases e <;> rfl
structure OkS [Xc] (C : TC) (CV : Nat → Value) (cl : Cl) (n : Nat) (sc : Scope) (X : Cx) (W : WX) : Prop where
  ok : Ok C CV cl n sc X W
  pass : C.hot = false → PassesOwn (model X.prog X.w) X.A X.env X.xe
  stk : X.stack = X.env :: X.outer
  frm : X.env.frame = some X.env.locals
  exm : ∀ c k b, C.exm c k = some b → PySem.W.exmOne X.K (CV c) (CV k) = some b
  cls : ∀ x c, C.cls x = some c → ∃ a, X.mg x = some (.ref a) ∧ CV c = .ref a ∧ PySem.W.excIn X.K a [.type "ValueError", .type "Exception", .type "BaseException", .type "object"] "ValueError.__new__" = true ∧ PySem.W.keepIn X.K (.ref a) = true ∧
    PySem.W.subIn X.K (.ref a) (.type "BaseException") = some true ∧ PySem.W.typeIn X.K (.ref a) = some (.type "type")
theorem asg_ok {σ : L2.St} {H : Hp} {D : Ends} {tg : Tg} {m : Ex} (h : tS X.K W CV (exs cl (.asg tg m)) D σ H) : tE X.K W CV (ev cl m) σ H fun x H1 => kN X tg x σ H1 D.nx := by
  obtain ⟨en, ρ, S, he, sim, g⟩ := h
  simp only [exs] at g
  refine ⟨en, ρ, S, he, sim, (g.st he).imp fun px ρ1 S1 H1 e1 s1 g1 x rx => ?_⟩
  split at g1
  · rename_i en' hen
    exact tgV_ok (he.ext e1) rx hen fun σ' he' => g1 ρ1 H1 σ' Ext.refl s1 he'
  · exact g1.elim
theorem for_okS {σ : L2.St} {H : Hp} {D : Ends} {tg : Tg} {it : Ix} {b : Sms} (h : tS X.K W CV (exs cl (.for' tg it b)) D σ H) : tFor (tI X.K W CV (evI cl it)) (kN X tg) (tS X.K W CV (exss cl b)) D σ H := by
  obtain ⟨en, ρ, S, he, sim, g⟩ := h
  simp only [exs] at g
  refine ⟨en, ρ, S, he, sim, (g.st he).imp fun q ρ1 S1 H1 e1 s1 g1 J wk => ?_⟩
  obtain ⟨its, w⟩ := q
  dsimp only at g1 wk
  refine ⟨fun k m σ H' => m = its.length - k ∧ ∃ en ρ' S', EnvOk X.K H' ρ' S'.length en σ ∧ Ext ρ1 S1 H1 ρ' S' H' ∧ Sim X.K ρ' S' H' ∧ GS X.K W CV D ρ' S' H' (forL tg w (exss cl b) (its.drop k) en S'), ⟨its.length, by simp, en, ρ1, S1, he.ext e1, Ext.refl, s1, by rw [List.drop_zero]; exact g1⟩, ?_⟩
  rintro k m σ H' ⟨rfl, en, ρ', S', he, ex, sm, g2⟩
  cases hd : its.drop k with
  | nil =>
    have hk : its.length ≤ k := by
      have := congrArg List.length hd
      rw [List.length_drop] at this
      simp at this; omega
    rw [hd] at g2
    unfold forL at g2
    split at g2
    · rename_i hw
      exact .inl ⟨(wk ρ' S' H' ex sm hw k).2 hk, g2 ρ' H' σ Ext.refl sm he⟩
    · exact g2.elim
  | cons x r =>
    have hk : its[k]? = some x := by
      have := congrArg (·[0]?) hd
      simpa using this
    have hr : its.drop (k + 1) = r := by
      have := congrArg List.tail hd
      simpa using this
    have hkl := getE_lt hk
    rw [hd] at g2
    unfold forL at g2
    split at g2
    · rename_i hw
      obtain ⟨hgo, hy⟩ := (wk ρ' S' H' ex sm hw k).1 x hk
      refine .inr ⟨hgo, fun σ H' => ∃ en ρ' S', EnvOk X.K H' ρ' S'.length en σ ∧ Ext ρ1 S1 H1 ρ' S' H' ∧ Sim X.K ρ' S' H' ∧ GS X.K W CV D ρ' S' H' (forL tg w (exss cl b) r en S'), fun σ' H'' h => ⟨its.length - (k + 1), by omega, rfl, by rw [hr]; exact h⟩, fun y H'' yl => ?_⟩
      obtain ⟨sh, ry⟩ := hy y H'' yl
      have sm2 := sm.same sh
      have ex2 : Ext ρ' S' H' ρ' S' H'' := ⟨Nat.le_refl _, fun _ _ => rfl, sh.keep⟩
      have g3 := g2.from ex2
      split at g3
      · rename_i en1 hen
        refine tgV_ok (he.ext ex2) ry hen fun σ2 he2 => ⟨en1, ρ', S', he2, sm2, ?_⟩
        cases hb : exss cl b en1 S' with
        | nx en2 S2 =>
          rw [hb] at g3
          exact fun ρ3 H3 σ3 e3 s3 he3 => ⟨en2, ρ3, S2, he3, (ex.trans ex2).trans e3, s3, g3.from e3⟩
        | ct en2 S2 =>
          rw [hb] at g3
          exact fun ρ3 H3 σ3 e3 s3 he3 => ⟨en2, ρ3, S2, he3, (ex.trans ex2).trans e3, s3, g3.from e3⟩
        | rt v S2 => rw [hb] at g3; exact g3
        | ex c en2 S2 => rw [hb] at g3; exact g3
        | no => rw [hb] at g3; exact g3
      · exact g3.elim
    · exact g2.elim
theorem while_okS {σ : L2.St} {H : Hp} {D : Ends} {t : Ex} {b : Sms} (h : tS X.K W CV (exs cl (.while t b)) D σ H) : tWhile (tT X.K W CV (evT cl t)) (tS X.K W CV (exss cl b)) D σ H := by
  obtain ⟨en, ρ, S, he, sim, g⟩ := h
  simp only [exs] at g
  refine ⟨fun m σ H => ∃ en ρ S, EnvOk X.K H ρ S.length en σ ∧ Sim X.K ρ S H ∧ GS X.K W CV D ρ S H (whileL (evT cl t) (exss cl b) m en S), ⟨_, en, ρ, S, he, sim, g⟩, ?_⟩
  rintro m σ H ⟨en, ρ, S, he, sim, g⟩
  cases m with
  | zero => exact g.elim
  | succ m =>
    unfold whileL at g
    refine ⟨en, ρ, S, he, sim, (g.st he).imp fun c ρ1 S1 H1 e1 s1 g1 => ?_⟩
    cases c with
    | false => exact g1 ρ1 H1 σ Ext.refl s1 (he.ext e1)
    | true =>
      rw [if_pos rfl] at g1 ⊢
      refine ⟨fun σ H => ∃ en ρ S, EnvOk X.K H ρ S.length en σ ∧ Sim X.K ρ S H ∧ GS X.K W CV D ρ S H (whileL (evT cl t) (exss cl b) m en S), fun σ' H' h => ⟨m, Nat.lt_succ_self _, h⟩, en, ρ1, S1, he.ext e1, s1, ?_⟩
      cases hb : exss cl b en S1 with
      | nx en2 S2 =>
        rw [hb] at g1
        exact fun ρ3 H3 σ3 e3 s3 he3 => ⟨en2, ρ3, S2, he3, s3, g1.from e3⟩
      | ct en2 S2 =>
        rw [hb] at g1
        exact fun ρ3 H3 σ3 e3 s3 he3 => ⟨en2, ρ3, S2, he3, s3, g1.from e3⟩
      | rt v S2 => rw [hb] at g1; exact g1
      | ex c en2 S2 => rw [hb] at g1; exact g1
      | no => rw [hb] at g1; exact g1
theorem env_non {K : PySem.W.Frag} {H : Hp} {ρ : Nat → Addr} {L i : Nat} {en : En} {σ : L2.St} (z : Option V) (h : EnvOk K H ρ L en σ) : EnvOk K H ρ L (en.set i none) (σ.set i z) := by
  refine ⟨by simp [h.len], fun j u g => ?_⟩
  by_cases hj : j = i
  · subst hj
    have lt : j < en.length := by have := getE_lt g; simpa using this
    rw [List.getElem?_set_self lt] at g
    cases g
  · rw [List.getElem?_set_ne (Ne.symm hj)] at g
    rw [List.getElem?_set_ne (Ne.symm hj)]
    exact h.get j u g
abbrev W0x : WX := fun _ _ _ _ => False
/-- what is handled, by its place, class, dict -/
def xcT (CV : Nat → Value) (a : Addr) (cls : Value) (d : Option Addr) : Xc := ⟨fun c b => b = a ∧ cls = CV c ∧ d = none⟩
theorem Ok.heat {a : Addr} {oe : Obj} {pn : List (Addr × Obj)} {cls : Value} {d : Option Addr} (hh : C.hot = false) (O : Ok C CV cl n sc X W) (hz : L2N.Zn cls d oe) (hf : ∃ vs, oe.data = .fields vs) : @Ok (xcT CV a cls d) C.heat CV cl n sc (X.suite a ((a, oe) :: pn)) W0x := by
  obtain ⟨rfl, rfl, hc⟩ := hz
  obtain ⟨vs, hv⟩ := hf
  exact @Ok.mk (xcT CV a oe.cls oe.dict) _ _ _ _ _ _ _ O.N O.nd (fun h => by cases h) (fun h => by cases h) O.hu (fun u s' ⟨_, _, _, _, _, _, _, _, _, _, _, _, _, _, _, _, w⟩ => w.elim)
    O.vis O.glo O.loc O.lo O.ce O.cf O.fre O.cst O.fn (fun h => by cases h) (fun _ => ⟨(a, oe), ⟨rfl, vs, hv, hc vs hv⟩, List.mem_cons_self, rfl⟩) (fun _ => ⟨(O.room hh).dp, (O.room hh).un⟩) O.fnH O.isx
theorem OkS.heat {a : Addr} {oe : Obj} {pn : List (Addr × Obj)} {cls : Value} {d : Option Addr} (hh : C.hot = false) (O : OkS C CV cl n sc X W) (hz : L2N.Zn cls d oe) (hf : ∃ vs, oe.data = .fields vs) : @OkS (xcT CV a cls d) C.heat CV cl n sc (X.suite a ((a, oe) :: pn)) W0x :=
  @OkS.mk (xcT CV a cls d) _ _ _ _ _ _ _ (O.ok.heat hh hz hf) (fun h => by cases h) O.stk O.frm O.exm O.cls
theorem Ok.tr {pn : List (Addr × Obj)} {xe : Value → Shared → Prop} {W' : WX} (hh : C.hot = false) (O : Ok C CV cl n sc X W) (t : L2N.Takes (X.tr pn xe) W') : Ok C CV cl n sc (X.tr pn xe) W' where
  N := O.N
  nd := O.nd
  calm := O.calm
  room := O.room
  hu := O.hu
  takes := t
  vis := O.vis
  glo := O.glo
  loc := O.loc
  lo := O.lo
  ce := O.ce
  cf := O.cf
  fre := O.fre
  cst := O.cst
  fn := O.fn
  cold := O.cold
  warm := fun h => by rw [hh] at h; cases h
  roomH := O.roomH
  fnH := O.fnH
  isx := O.isx
theorem OkS.tr {pn : List (Addr × Obj)} {xe : Value → Shared → Prop} {W' : WX} (hh : C.hot = false) (O : OkS C CV cl n sc X W) (t : L2N.Takes (X.tr pn xe) W') (p : PassesOwn (model X.prog X.w) X.A X.env xe) : OkS C CV cl n sc (X.tr pn xe) W' :=
  ⟨O.ok.tr hh t, fun _ => p, O.stk, O.frm, O.exm, O.cls⟩
theorem yes_ok {c k : Nat} (O : OkS C CV cl n sc X W) (h : (yesL C k).contains c = true) : PySem.W.exmOne X.K (CV c) (CV k) = some true := by
  have h := List.contains_iff_mem.mp h
  exact O.exm _ _ _ (by have := (List.mem_filter.mp h).2; exact eq_of_beq this)
theorem no_ok {c k : Nat} (O : OkS C CV cl n sc X W) (h : (noL C k).contains c = true) : PySem.W.exmOne X.K (CV c) (CV k) = some false := by
  have h := List.contains_iff_mem.mp h
  exact O.exm _ _ _ (by have := (List.mem_filter.mp h).2; exact eq_of_beq this)
/-- the handlers as the rule wants them -/
def hdL (K : PySem.W.Frag) (CV : Nat → Value) (cl : Cl) : List (Nat × Sms) → List (Value × (Addr → Value → Option Addr → TS))
  | [] => []
  | (k, m) :: r => (CV k, fun a c d => @tS (xcT CV a c d) K W0x CV (exss cl m)) :: hdL K CV cl r
def hsOf (C : TC) : List (Nat × Sms) → Hs
  | [] => .nil
  | (k, m) :: r => .cons (yesL C k) (noL C k) m (hsOf C r)
theorem noEx_ok {ξ ξ' : Xc} {D : Ends} {ρ : Nat → Addr} {S : Sto} {H : Hp} {K : PySem.W.Frag} {W W' : WX} {r : RS} (h : @GS ξ K W CV D ρ S H (noEx r)) : @GS ξ' K W' CV D ρ S H r := by
  unfold noEx at h
  cases r with
  | ex c en S => exact h.elim
  | no => exact h
  | nx en S =>
    dsimp only at h
    split at h
    · exact h.elim
    · rename_i hx
      exact fun ρ' H' σ' e s he => h ρ' H' σ' e s (EnvOk.free (by simpa using hx) he)
  | ct en S =>
    dsimp only at h
    split at h
    · exact h.elim
    · rename_i hx
      exact fun ρ' H' σ' e s he => h ρ' H' σ' e s (EnvOk.free (by simpa using hx) he)
  | rt v S =>
    dsimp only at h
    split at h
    · exact h.elim
    · rename_i hx
      exact fun ρ' H' x e s rx => h ρ' H' x e s (RelQ.free _ _ (by simpa using hx) rx)
/-- the same for a handler with a name -/
theorem gone_ok {ξ ξ' : Xc} {i : Nat} {D : Ends} {ρ : Nat → Addr} {S : Sto} {H : Hp} {K : PySem.W.Frag} {W W' : WX} {r : RS} (h : @GS ξ K W CV D ρ S H (goneR i r)) :
    @GS ξ' K W' CV { nx := fun σ' H' => D.nx (σ'.set i none) H', rt := D.rt, bk := fun σ' H' => D.bk (σ'.set i none) H', ct := fun σ' H' => D.ct (σ'.set i none) H' } ρ S H r := by
  unfold goneR at h
  cases r with
  | ex c en S => exact h.elim
  | no => exact h
  | nx en S =>
    dsimp only at h
    split at h
    · exact h.elim
    · rename_i hx
      exact fun ρ' H' σ' e s he => h ρ' H' _ e s (EnvOk.free (by simpa using hx) (@env_non ξ' _ _ _ _ _ _ _ none he))
  | ct en S =>
    dsimp only at h
    split at h
    · exact h.elim
    · rename_i hx
      exact fun ρ' H' σ' e s he => h ρ' H' _ e s (EnvOk.free (by simpa using hx) (@env_non ξ' _ _ _ _ _ _ _ none he))
  | rt v S =>
    dsimp only at h
    split at h
    · exact h.elim
    · rename_i hx
      exact fun ρ' H' x e s rx => h ρ' H' x e s (RelQ.free _ _ (by simpa using hx) rx)
theorem hds_ok {D : Ends} (hh : C.hot = false) (O : OkS C CV cl n sc X W) : ∀ {l : List (Nat × Sms)} {c : Nat} {en : En} {ρ : Nat → Addr} {S : Sto} {H : Hp} {σ : L2.St}, GS X.K W CV D ρ S H (hds cl (hsOf C l) c en S) → Sim X.K ρ S H → EnvOk X.K H ρ S.length en σ →
    wMany X.K W D (hdL X.K CV cl l) (CV c) none σ H
  | [], c, en, ρ, S, H, σ, g, sim, he => by
    simp only [hsOf, hds] at g
    exact g ρ H σ Ext.refl sim he
  | (k, m) :: r, c, en, ρ, S, H, σ, g, sim, he => by
    simp only [hsOf, hds] at g
    split at g
    · rename_i h
      exact ⟨true, yes_ok O h, fun _ a _ => ⟨en, ρ, S, EnvOk.to (fun c a z => absurd z (O.ok.cold hh c a)) he, sim, noEx_ok g⟩, fun h => by cases h⟩
    · split at g
      · rename_i h
        exact ⟨false, no_ok O h, (fun h => by cases h), fun _ => hds_ok hh O g sim he⟩
      · exact g.elim
end
section
variable {CV : Nat → Value} {cl : Cl} {n : Nat}
mutual
theorem sndS [ξ : Xc] : ∀ {C : TC} {sc : Scope} {st : Stmt} {m : Sm}, TrS C sc st m → ∀ {X : Cx} {W : WX}, OkS C CV cl n sc X W → PS X st (tS X.K W CV (exs cl m))
  | _, _, _, _, .asgN hN hl he hn, X, W, O => by
    have a := (sndE he O.ok).1
    refine ⟨fun pins s σ H D I h => (ps_set (by rw [O.ok.N]; exact O.ok.nd) (by rw [O.ok.N]; exact hN) (O.ok.loc _ hl).1 a (sw_nl hn) (O.ok.loc _ hl).2).run pins s σ H D I (asg_ok h)⟩
  | _, _, _, _, .asgD hN hl he hc, X, W, O => by
    have a := (sndE he O.ok).1
    refine ⟨fun pins s σ H D I h => (ps_set (by rw [O.ok.N]; exact O.ok.nd) (by rw [O.ok.N]; exact hN) (O.ok.loc _ hl).1 a ?_ (O.ok.loc _ hl).2).run pins s σ H D I (asg_ok h)⟩
    have hk : X.env.kindOf _ = some .cell := O.ok.ce _ hc
    unfold swapsWith
    have z2 : (NameKind.cell == NameKind.local) = false := by decide
    cases he <;> first | rfl | (simp only [hk]; simp; rw [z2, Bool.and_false, Bool.false_and, Bool.false_and])
  | _, _, _, _, .asgC hN hl he hsw, X, W, O => by
    refine ⟨fun pins s σ H D I h => ?_⟩
    cases he with
    | @comp _ sc' tgx tp i iter elt ifs it tst e pos hh hi hblk hloc hN' hc he =>
      have hI := snd_I2 hi O.ok
      simp only [swB, Bool.and_eq_true, Bool.not_eq_true'] at hsw
      obtain ⟨⟨h1, h2⟩, h3⟩ := hsw
      split at h1
      · rename_i hlk
        refine (ps_setLc (own := [(_, i)]) (O.ok.calm hh) (by rw [O.ok.N]; exact O.ok.nd) (by rw [O.ok.N]; exact hN) (O.ok.lo _ hlk) (sw_true I.ok.kind (O.ok.lo _ hlk) h2 h3) hI (O.ok.bok hblk) (g := gName i) (tt := tT X.K W0 CV (evC cl tst)) (te := tE X.K W0 CV (ev cl e)) (fun s H D cl' fp => ?_) (fun s H D cl' fp => ?_) (fun s H D cl' fp => ?_) (folded_ns (snd_ns hi))).run pins s σ H D I (comp_ok σ H _ (asg_ok h))
        · have O2 := O.ok.blk (sc' := sc') hh s H D cl' fp
          exact pg_name (X := X.blk s H sc' (compEnvC sc' cl' D X.env) fp) (by show X.N.Nodup; rw [O.ok.N]; exact O.ok.nd) (by show X.N[i]? = _; rw [O.ok.N]; exact hN') (O2.loc _ hloc).1 (O2.loc _ hloc).2
        · exact sndC hc (O.ok.blk (sc' := sc') hh s H D cl' fp)
        · exact (sndE he (O.ok.blk (sc' := sc') hh s H D cl' fp)).1
      · cases h1
    | _ => cases hsw
  | _, _, _, _, .asgT hh hg he hn ht, X, W, O => by
    have a := (sndE he O.ok).1
    exact ⟨fun pins s σ H D I h => (ps_asg a (pg_ok O.ok (.tp hh hg)) (sws_nl hn) (swst_nt ht) rfl).run pins s σ H D I (asg_ok h)⟩
  | _, _, _, _, .setI ho hi he hn hs, X, W, O => by
    have a := (sndE ho O.ok).1
    have b := (sndE hi O.ok).1
    have c := (sndE he O.ok).1
    refine ⟨fun pins s σ H D I ⟨en, ρ, S, hen, sim, g⟩ => (ps_asg c (pg_sub a b (set_ok O.ok.hu1) (sub_asg hs)) (sws_nl hn) swst_sub rfl).run pins s σ H D I ?_⟩
    simp only [exs] at g
    refine ⟨en, ρ, S, hen, sim, (g.st hen).imp fun pv ρ1 S1 H1 e1 s1 g1 v rv => ?_⟩
    have he1 := hen.ext e1
    refine ⟨en, ρ1, S1, he1, s1, (g1.st he1).imp fun po ρ2 S2 H2 e2 s2 g2 o ro => ?_⟩
    have he2 := he1.ext e2
    refine ⟨en, ρ2, S2, he2, s2, (g2.st he2).imp fun pi ρ3 S3 H3 e3 s3 g3 i ri => ?_⟩
    have he3 := he2.ext e3
    refine ⟨ρ3, S3, po, pi, pv, s3, ro.ext e3, ri, (rv.ext e2).ext e3, ?_⟩
    cases hq : setV po pi pv S3 with
    | ok u S4 => rw [hq] at g3; exact fun ρ4 H4 e4 s4 => g3 ρ4 H4 σ e4 s4 (he3.ext e4)
    | ex c S4 =>
      exfalso
      unfold setV at hq
      repeat' split at hq
      all_goals cases hq
    | no => rw [hq] at g3; exact g3
  | _, _, _, _, .ex he hn, X, W, O => by
    have a := (sndE he O.ok).1
    refine ⟨fun pins s σ H D I ⟨en, ρ, S, hen, sim, g⟩ => (ps_expr a (sw_nl hn)).run pins s σ H D I ?_⟩
    simp only [exs] at g
    exact ⟨en, ρ, S, hen, sim, (g.st hen).imp fun pv ρ1 S1 H1 e1 s1 g1 v rv => g1 ρ1 H1 σ Ext.refl s1 (hen.ext e1)⟩
  | _, _, _, _, .ret he, X, W, O => by
    have a := (sndE he O.ok).1
    refine ⟨fun pins s σ H D I ⟨en, ρ, S, hen, sim, g⟩ => (ps_ret a).run pins s σ H D I ?_⟩
    simp only [exs] at g
    exact ⟨en, ρ, S, hen, sim, (g.st hen).imp fun pv ρ1 S1 H1 e1 s1 g1 v rv => g1 ρ1 H1 v Ext.refl s1 rv⟩
  | _, _, _, _, .retN, X, W, O => by
    refine ⟨fun pins s σ H D I ⟨en, ρ, S, hen, sim, g⟩ => ps_retN.run pins s σ H D I ?_⟩
    simp only [exs] at g
    exact g ρ H .non Ext.refl sim (.p .non)
  | _, _, _, _, .ift ht ha hb, X, W, O => by
    have t := (sndE ht O.ok).2
    have a := sndSs ha O
    have b := sndSs hb O
    refine ⟨fun pins s σ H D I ⟨en, ρ, S, hen, sim, g⟩ => (ps_if t a b).run pins s σ H D I ?_⟩
    simp only [exs] at g
    refine ⟨en, ρ, S, hen, sim, (g.st hen).imp fun c ρ1 S1 H1 e1 s1 g1 => ?_⟩
    cases c with
    | true => exact ⟨en, ρ1, S1, hen.ext e1, s1, g1⟩
    | false => exact ⟨en, ρ1, S1, hen.ext e1, s1, g1⟩
  | _, _, _, _, .for' hh hg hi hb, X, W, O =>
    ⟨fun pins s σ H D I h => (ps_for (O.pass hh) (O.ok.calm hh) (snd_I2 hi O.ok) (pg_ok O.ok hg) (sndSs hb O) (folded_ns (snd_ns hi))).run pins s σ H D I (for_okS h)⟩
  | _, _, _, _, .while hh ht hb, X, W, O =>
    ⟨fun pins s σ H D I h => (ps_while (O.pass hh) (sndE ht O.ok).2 (sndSs hb O)).run pins s σ H D I (while_okS h)⟩
  | _, _, _, _, .raise hh hg hd hc, X, W, O => by
    obtain ⟨a, h1, h2, h3, h4, h5, h6⟩ := O.cls _ _ hc
    refine ⟨fun pins s σ H D I ⟨en, ρ, S, hen, sim, g⟩ => (L2N.ps_raise (O.ok.calm hh) O.ok.takes (L2N.pmk_own PySem.F.excBase_ValueError h3 h1 h4 (raises_own h5 h6) (O.ok.glo _ hg) (dbg1 hd))).run pins s σ H D I ?_⟩
    simp only [exs] at g
    have := g ρ H σ Ext.refl sim hen
    rw [h2] at this
    exact this
  | _, _, _, _, .cont, X, W, O => ⟨fun pins s σ H D I ⟨en, ρ, S, hen, sim, g⟩ => ps_continue.run pins s σ H D I (by simp only [exs] at g; exact g ρ H σ Ext.refl sim hen)⟩
  | _, _, _, _, .pass, X, W, O => ⟨fun pins s σ H D I ⟨en, ρ, S, hen, sim, g⟩ => ps_pass.run pins s σ H D I (by simp only [exs] at g; exact g ρ H σ Ext.refl sim hen)⟩
  | _, _, _, _, .tryM (C := C) hh hb ht, X, W, O => by
    obtain ⟨l, rfl, hds'⟩ := sndHs ht hh O
    refine ⟨fun pins s σ H D I ⟨en, ρ, S, hen, sim, g⟩ => (L2N.ps_try_many (l := hdL X.K CV cl l) (tb := fun W' => tS X.K W' CV (exss cl _)) O.stk O.frm O.ok.takes (fun W' pn xe t p => sndSs hb (O.tr hh t p)) hds').run pins s σ H D I ⟨en, ρ, S, hen, sim, ?_⟩⟩
    simp only [exs] at g
    cases hq : exss cl _ en S with
    | ex c en2 S2 =>
      rw [hq] at g
      exact fun ρ3 H3 σ3 e3 s3 he3 => hds_ok hh O (GS.from g e3) s3 he3
    | nx en2 S2 => rw [hq] at g; exact g
    | ct en2 S2 => rw [hq] at g; exact g
    | rt v S2 => rw [hq] at g; exact g
    | no => rw [hq] at g; exact g
  | _, _, _, _, .tryA (C := C) (k := k) (i := i) (h := h) hh hb hg hd hc hN hl hs, X, W, O => by
    obtain ⟨a, h1, h2, _⟩ := O.cls _ _ hc
    refine ⟨fun pins s σ H D I ⟨en, ρ, S, hen, sim, g⟩ => (L2N.ps_try_as (c := CV k) (i := i) (tb := fun W' => tS X.K W' CV (exss cl _)) (ts := fun a c d => @tS (xcT CV a c d) X.K W0x CV (exss cl h)) O.stk O.frm (by rw [O.ok.N]; exact O.ok.nd) (by rw [O.ok.N]; exact hN) (O.ok.lo _ hl) ⟨O.ok.glo _ hg, dbg1 hd, .inl (by rw [h1, h2])⟩ O.ok.takes
      (fun W' pn xe t p => sndSs hb (O.tr hh t p)) (fun a oe cls d pn hz hf => sndSs (ξ := xcT CV a cls d) hs (O.heat hh hz hf))).run pins s σ H D I ⟨en, ρ, S, hen, sim, ?_⟩⟩
    simp only [exs] at g
    cases hq : exss cl _ en S with
    | ex c en2 S2 =>
      rw [hq] at g
      intro ρ3 H3 σ3 e3 s3 he3
      have g3 := GS.from g e3
      dsimp only at g3
      split at g3
      · rename_i hy
        refine ⟨true, yes_ok O hy, fun _ ad _ => ⟨en2.set i (some (.exc c)), ρ3, S2, @EnvOk.set (xcT CV ad (CV c) none) _ _ _ _ _ _ _ _ _ (EnvOk.to (fun c a z => absurd z (O.ok.cold hh c a)) he3) (@RelQ.exc (xcT CV ad (CV c) none) _ _ _ _ _ _ ⟨rfl, rfl, rfl⟩), s3, gone_ok g3⟩, fun z => by cases z⟩
      · split at g3
        · rename_i hy
          exact ⟨false, no_ok O hy, (fun z => by cases z), fun _ => g3 ρ3 H3 σ3 Ext.refl s3 he3⟩
        · exact g3.elim
    | nx en2 S2 => rw [hq] at g; exact g
    | ct en2 S2 => rw [hq] at g; exact g
    | rt v S2 => rw [hq] at g; exact g
    | no => rw [hq] at g; exact g
theorem sndHs [ξ : Xc] : ∀ {C : TC} {sc : Scope} {hs : List ExceptHandler} {h : Hs}, TrHs C sc hs h → C.hot = false → ∀ {X : Cx} {W : WX}, OkS C CV cl n sc X W → ∃ l, h = hsOf C l ∧ L2N.HdsOk X hs (hdL X.K CV cl l)
  | _, _, _, _, .nil, hh, X, W, O => ⟨[], rfl, .nil⟩
  | _, _, _, _, .cons (k := k) (m := m) hg hd hc hb hr, hh, X, W, O => by
    obtain ⟨l, rfl, h2⟩ := sndHs hr hh O
    obtain ⟨a, h1, h3, _⟩ := O.cls _ _ hc
    exact ⟨(k, m) :: l, rfl, .cons ⟨O.ok.glo _ hg, dbg1 hd, .inl (by rw [h1, h3])⟩ (fun a oe cls d pn hz hf => sndSs (ξ := xcT CV a cls d) hb (O.heat hh hz hf)) h2⟩
theorem sndSs [ξ : Xc] : ∀ {C : TC} {sc : Scope} {sts : List Stmt} {m : Sms}, TrSs C sc sts m → ∀ {X : Cx} {W : WX}, OkS C CV cl n sc X W → PSs X sts (tS X.K W CV (exss cl m))
  | _, _, _, _, .nil, X, W, O => ⟨fun pins s σ H D I ⟨en, ρ, S, hen, sim, g⟩ => pss_nil.run pins s σ H D I (by simp only [exss] at g; exact g ρ H σ Ext.refl sim hen)⟩
  | _, _, _, _, .cons hs hr, X, W, O => by
    have a := sndS hs O
    have b := sndSs hr O
    refine ⟨fun pins s σ H D I ⟨en, ρ, S, hen, sim, g⟩ => (pss_cons a b).run pins s σ H D I ⟨en, ρ, S, hen, sim, ?_⟩⟩
    simp only [exss] at g
    cases hq : exs cl _ en S with
    | nx en2 S2 =>
      rw [hq] at g
      exact fun ρ3 H3 σ3 e3 s3 he3 => ⟨en2, ρ3, S2, he3, s3, GS.from g e3⟩
    | ct en2 S2 => rw [hq] at g; exact g
    | rt v S2 => rw [hq] at g; exact g
    | ex c en2 S2 => rw [hq] at g; exact g
    | no => rw [hq] at g; exact g
end
end
end Kp

set_option Elab.async false
set_option linter.all false
set_option maxRecDepth 100000
set_option maxHeartbeats 8000000
set_option autoImplicit false
/-! K11: defs. -/
namespace Kp
open PySem PySem.Spec PyProof.Rows L2
section
variable [Xc] {K : PySem.W.Frag} {H : Hp} {ρ : Nat → Addr}
/-- the new cells' map -/
def rn (n : Nat) (ks : List Nat) (ρ : Nat → Addr) : Nat → Addr := fun i => if i < n then ρ i else match ks[i - n]? with
  | some k => ρ k
  | none => 0
theorem rn_lt {n i : Nat} {ks : List Nat} (h : i < n) : rn n ks ρ i = ρ i := by unfold rn; rw [if_pos h]
theorem rn_ge {n j k : Nat} {ks : List Nat} (h : ks[j]? = some k) : rn n ks ρ (n + j) = ρ k := by
  unfold rn
  rw [if_neg (by omega), Nat.add_sub_cancel_left, h]
theorem rn_more {n i : Nat} {ks more : List Nat} (h : i < n + ks.length) : rn n (ks ++ more) ρ i = rn n ks ρ i := by
  unfold rn
  by_cases c : i < n
  · rw [if_pos c, if_pos c]
  · rw [if_neg c, if_neg c, List.getElem?_append_left (by omega)]
structure Kept (n L : Nat) (ks : List Nat) : Prop where
  in' : ∀ k ∈ ks, n ≤ k ∧ k < L
  nd : ks.Nodup
mutual
theorem gcV_ok {n L : Nat} : ∀ (v : PV) (x : V) (ks : List Nat), RelQ K H ρ L v x → Kept n L ks →
    (∃ more, (gcV n v ks).2 = ks ++ more) ∧ Kept n L (gcV n v ks).2 ∧ RelQ K H (rn n (gcV n v ks).2 ρ) (n + (gcV n v ks).2.length) (gcV n v ks).1 x
  | .p d, x, ks, r, hk => by
    cases r with | p r =>
    simp only [gcV]
    exact ⟨⟨[], by simp⟩, hk, .p r⟩
  | .loc k, x, ks, r, hk => by
    cases r with | loc hl =>
    simp only [gcV]
    by_cases c : k < n
    · rw [if_pos c]
      refine ⟨⟨[], by simp⟩, hk, ?_⟩
      have z : RelQ K H (rn n ks ρ) (n + ks.length) (.loc k) (.ref (rn n ks ρ k)) := .loc (by omega)
      rw [rn_lt c] at z; exact z
    · rw [if_neg c]
      cases hq : ks.idxOf? k with
      | some j =>
        have hj : ks[j]? = some k := by
          rw [List.idxOf?_eq_some_iff] at hq
          obtain ⟨hlt, he, _⟩ := hq
          rw [List.getElem?_eq_getElem hlt]
          simpa using he
        refine ⟨⟨[], by simp⟩, hk, ?_⟩
        have z : RelQ K H (rn n ks ρ) (n + ks.length) (.loc (n + j)) (.ref (rn n ks ρ (n + j))) := .loc (by have := getE_lt hj; omega)
        rw [rn_ge hj] at z; exact z
      | none =>
        have hn : k ∉ ks := by rw [List.idxOf?_eq_none_iff] at hq; exact hq
        refine ⟨⟨[k], rfl⟩, ⟨fun a ha => ?_, ?_⟩, ?_⟩
        · rcases List.mem_append.mp ha with h | h
          · exact hk.in' a h
          · have : a = k := by simpa using h
            subst this; exact ⟨by omega, hl⟩
        · rw [List.nodup_append]
          exact ⟨hk.nd, by simp, fun a ha b hb => by
            have : b = k := by simpa using hb
            subst this; exact fun e => hn (e ▸ ha)⟩
        · have hj : (ks ++ [k])[ks.length]? = some k := by simp
          have z : RelQ K H (rn n (ks ++ [k]) ρ) (n + (ks ++ [k]).length) (.loc (n + ks.length)) (.ref (rn n (ks ++ [k]) ρ (n + ks.length))) := .loc (by simp)
          rw [rn_ge hj] at z; exact z
  | .exc c, x, ks, r, hk => by
    cases r with | exc r =>
    simp only [gcV]
    exact ⟨⟨[], by simp⟩, hk, .exc r⟩
  | .mt vs, x, ks, r, hk => by
    cases r with | mt a b =>
    simp only [gcV]
    obtain ⟨h1, h2, h3⟩ := gcVs_ok vs _ ks b hk
    exact ⟨h1, h2, .mt a h3⟩
theorem gcVs_ok {n L : Nat} : ∀ (vs : List PV) (xs : List V) (ks : List Nat), RelQs K H ρ L vs xs → Kept n L ks →
    (∃ more, (gcVs n vs ks).2 = ks ++ more) ∧ Kept n L (gcVs n vs ks).2 ∧ RelQs K H (rn n (gcVs n vs ks).2 ρ) (n + (gcVs n vs ks).2.length) (gcVs n vs ks).1 xs
  | [], xs, ks, r, hk => by
    cases r
    simp only [gcVs]
    exact ⟨⟨[], by simp⟩, hk, .nil⟩
  | v :: vs, xs, ks, r, hk => by
    cases r with | cons r1 r2 =>
    simp only [gcVs]
    obtain ⟨⟨m1, e1⟩, k1, q1⟩ := gcV_ok v _ ks r1 hk
    obtain ⟨⟨m2, e2⟩, k2, q2⟩ := gcVs_ok vs _ (gcV n v ks).2 r2 k1
    refine ⟨⟨m1 ++ m2, by rw [e2, e1, List.append_assoc]⟩, k2, .cons ?_ q2⟩
    rw [e2]
    exact q1.mono (Keep.refl _) (by rw [List.length_append]; omega) fun i hi => rn_more hi
end
theorem filterMap_get {S : Sto} : ∀ {ks : List Nat}, (∀ k ∈ ks, k < S.length) → (ks.filterMap fun k => S[k]?).length = ks.length ∧ ∀ (j k : Nat), ks[j]? = some k → (ks.filterMap fun k => S[k]?)[j]? = S[k]?
  | [], _ => ⟨rfl, fun j k h => by simp at h⟩
  | k :: ks, h => by
    obtain ⟨l, g⟩ := filterMap_get (ks := ks) fun a ha => h a (List.mem_cons_of_mem _ ha)
    have hk := h k List.mem_cons_self
    rw [List.filterMap_cons, List.getElem?_eq_getElem hk]
    dsimp only
    refine ⟨by simp [l], fun j a e => ?_⟩
    cases j with
    | zero => simp at e; subst e; rw [List.getElem?_cons_zero, List.getElem?_eq_getElem hk]
    | succ j => rw [List.getElem?_cons_succ] at e ⊢; exact g j a e
/-- the store behind a call -/
theorem gc_ok {CV : Nat → Value} {ρ0 : Nat → Addr} {S0 S : Sto} {H0 : Hp} {Q : VK} {v : PV} {x : V} {W : WX} {σ : L2.St} (e : Ext ρ0 S0 H0 ρ S H) (sim : Sim K ρ S H) (r : RelQ K H ρ S.length v x)
    (g : G K W CV σ ρ0 S0 H0 (gc S0.length v S) (QV K Q)) : Q x H := by
  unfold gc at g
  dsimp only at g
  have hk0 : Kept S0.length S.length [] := ⟨fun k h => by simp at h, List.nodup_nil⟩
  obtain ⟨_, hk, hr⟩ := gcV_ok (n := S0.length) v x [] r hk0
  obtain ⟨l, gt⟩ := filterMap_get (S := S) fun k h => (hk.in' k h).2
  have tl : (S.take S0.length).length = S0.length := by rw [List.length_take]; have := e.le; omega
  refine g (rn S0.length (gcV S0.length v []).2 ρ) H ⟨by rw [List.length_append, tl]; omega, fun i hi => (rn_lt hi).trans (e.same i hi), e.keep⟩ ⟨fun i c hc => ?_, fun i j hi hj h => ?_⟩ x ?_
  · by_cases hi : i < S0.length
    · rw [List.getElem?_append_left (by rw [tl]; exact hi), List.getElem?_take, if_pos hi] at hc
      rw [rn_lt hi]
      exact sim.cell i c hc
    · rw [List.getElem?_append_right (by rw [tl]; omega), tl] at hc
      have hlt := getE_lt hc
      rw [l] at hlt
      have hj := List.getElem?_eq_getElem hlt
      rw [gt _ _ hj] at hc
      have e2 : i = S0.length + (i - S0.length) := by omega
      rw [e2, rn_ge hj]
      exact sim.cell _ c hc
  · rw [List.length_append, tl, l] at hi hj
    have val : ∀ i, i < S0.length + (gcV S0.length v []).2.length → ∃ k, k < S.length ∧ rn S0.length (gcV S0.length v []).2 ρ i = ρ k ∧ ((i < S0.length ∧ k = i) ∨ (S0.length ≤ i ∧ (gcV S0.length v []).2[i - S0.length]? = some k)) := by
      intro i hi
      by_cases c : i < S0.length
      · exact ⟨i, Nat.lt_of_lt_of_le c e.le, rn_lt c, .inl ⟨c, rfl⟩⟩
      · have hlt : i - S0.length < (gcV S0.length v []).2.length := by omega
        have hj := List.getElem?_eq_getElem hlt
        have e2 : i = S0.length + (i - S0.length) := by omega
        exact ⟨_, (hk.in' _ (List.getElem_mem hlt)).2, (congrArg (rn S0.length (gcV S0.length v []).2 ρ) e2).trans (rn_ge hj), .inr ⟨by omega, hj⟩⟩
    obtain ⟨k1, l1, e1, c1⟩ := val i hi
    obtain ⟨k2, l2, e2, c2⟩ := val j hj
    rw [e1, e2] at h
    have hkk := sim.inj k1 k2 l1 l2 h
    subst hkk
    rcases c1 with ⟨a, b⟩ | ⟨a, b⟩
    · rcases c2 with ⟨c, d⟩ | ⟨c, d⟩
      · rw [← b, d]
      · have := (hk.in' _ (List.mem_of_getElem? d)).1
        omega
    · rcases c2 with ⟨c, d⟩ | ⟨c, d⟩
      · have := (hk.in' _ (List.mem_of_getElem? b)).1
        omega
      · obtain ⟨p1, q1⟩ := List.getElem?_eq_some_iff.mp b
        obtain ⟨p2, q2⟩ := List.getElem?_eq_some_iff.mp d
        have := (List.getElem_inj hk.nd).mp (q1.trans q2.symm)
        omega
  · rw [List.length_append, tl, l]; exact hr
theorem take_sim {ρ0 : Nat → Addr} {S0 S : Sto} {H0 : Hp} (e : Ext ρ0 S0 H0 ρ S H) (sim : Sim K ρ S H) : Sim K ρ (S.take S0.length) H ∧ Ext ρ0 S0 H0 ρ (S.take S0.length) H := by
  have tl : (S.take S0.length).length = S0.length := by rw [List.length_take]; have := e.le; omega
  refine ⟨⟨fun i c hc => ?_, fun i j hi hj h => sim.inj i j (by rw [tl] at hi; have := e.le; omega) (by rw [tl] at hj; have := e.le; omega) h⟩, ⟨by rw [tl]; exact Nat.le_refl _, e.same, e.keep⟩⟩
  have hi := getE_lt hc
  rw [tl] at hi
  rw [List.getElem?_take, if_pos hi] at hc
  exact sim.cell i c hc
theorem relQs_envOk {N : List Str} {np : Nat} {S : Sto} {ps : List PV} {vs : List V} (r : RelQs K H ρ S.length ps vs) (hl : ps.length = np) :
    EnvOk K H ρ S.length (ps.map some ++ List.replicate (N.length - np) none) (L2.start N vs) := by
  have hv := r.length
  refine ⟨?_, fun i v h => ?_⟩
  · unfold L2.start
    simp only [List.length_append, List.length_map, List.length_replicate]
    rw [← hv, hl]
  · by_cases hi : i < ps.length
    · rw [List.getElem?_append_left (by simpa using hi), List.getElem?_map] at h
      cases q : ps[i]? with
      | none => rw [q] at h; cases h
      | some u =>
        rw [q] at h; cases h
        obtain ⟨x, hx, rx⟩ := r.get q
        refine ⟨x, ?_, rx⟩
        unfold L2.start
        rw [List.getElem?_append_left (by rw [List.length_map, ← hv]; exact hi), List.getElem?_map, hx]; rfl
    · rw [List.getElem?_append_right (by simp; omega), List.getElem?_replicate] at h
      split at h <;> cases h
end
/-- the names that all defs see -/
structure GL where
  fn : Str → Option Nat
  cst : Str → Option P
  cls : Str → Option Nat
  fre : Str → Bool
  exm : Nat → Nat → Option Bool
  ncl : Nat
  hfn : Nat → Bool
  isx : Str → Nat → Option Bool
def GL.at (g : GL) (N : List Str) : TC := ⟨N, g.fn, g.cst, g.cls, g.fre, false, g.exm, g.ncl, g.hfn, g.isx⟩
/-- a def: its names, the parameters first, its body -/
structure DefOk (g : GL) (T : Nat → Option FD) (f : Nat) (N ps : List Str) (body : List Stmt) (sc : Scope) : Prop where
  sco : FnScope N ps sc
  tab : ∃ m, T f = some ⟨ps.length, N.length, m⟩ ∧ TrSs (g.at N) sc body m
  tabH : g.hfn f = true → ∃ m, T f = some ⟨ps.length, N.length, m⟩ ∧ TrSs (g.at N).heat sc body m
section
variable {g : GL} {CV : Nat → Value} {T : Nat → Option FD} {P : Program} {w : World} {K : PySem.W.Frag} {mg : Str → Option Value} {base : Heap}
structure Facts (g : GL) (CV : Nat → Value) (K : PySem.W.Frag) (mg : Str → Option Value) : Prop where
  fre : ∀ x, g.fre x = true → mg x = none
  cst : ∀ x k, g.cst x = some k → ∃ v u, mg x = some u ∧ RelV v u ∧ ∀ H, RelP K H k v
  cls : ∀ x c, g.cls x = some c → ∃ a, mg x = some (.ref a) ∧ CV c = .ref a ∧ PySem.W.excIn K a [.type "ValueError", .type "Exception", .type "BaseException", .type "object"] "ValueError.__new__" = true ∧ PySem.W.keepIn K (.ref a) = true ∧
    PySem.W.subIn K (.ref a) (.type "BaseException") = some true ∧ PySem.W.typeIn K (.ref a) = some (.type "type")
  exm : ∀ c k b, g.exm c k = some b → PySem.W.exmOne K (CV c) (CV k) = some b
  isx : ∀ x c b, g.isx x c = some b → IsxOk K CV mg x c b
theorem spE_len [ξ : Xc] {n : Nat} {f : Nat} {N ps : List Str} {m : Sms} (ht : T f = some ⟨ps.length, N.length, m⟩) : ∀ vs H Q E, spE K CV (callE T (n + 1)) f vs H Q E → vs.length = ps.length := by
  intro vs H Q E ⟨ρ, S, qs, sim, r, h⟩
  unfold callE at h
  rw [ht] at h
  dsimp only at h
  split at h
  · rename_i hl
    rw [← r.length]; exact hl
  · exact h.elim
/-- the body's wish from what is said of the call -/
theorem body_sp [ξ : Xc] {n f : Nat} {N ps : List Str} {m : Sms} {vs : List V} {H : Hp} {Q : VK} {E : XK} (ht : T f = some ⟨ps.length, N.length, m⟩) (h : spE K CV (callE T (n + 1)) f vs H Q E) :
    tS K (fun c d _ H => E c d H) CV (exss (callE T n) m) { nx := fun _ H' => Q .non H', rt := Q } (L2.start N vs) H := by
  obtain ⟨ρ, S, qs, sim, r, hg⟩ := h
  unfold callE at hg
  rw [ht] at hg
  dsimp only at hg
  split at hg
  · rename_i hl
    refine ⟨_, ρ, S, relQs_envOk (N := N) r hl, sim, ?_⟩
    cases hq : exss (callE T n) m (qs.map some ++ List.replicate (N.length - ps.length) none) S with
    | no => rw [hq] at hg; exact hg
    | ct en S' => rw [hq] at hg; exact hg.elim
    | nx en S' =>
      rw [hq] at hg
      intro ρ' H' σ' e s' _
      obtain ⟨s2, e2⟩ := take_sim e s'
      exact hg ρ' H' e2 s2 .non (.p .non)
    | ex c en S' =>
      rw [hq] at hg
      intro ρ' H' σ' e s' _
      obtain ⟨s2, e2⟩ := take_sim e s'
      exact hg ρ' H' e2 s2
    | rt v S' =>
      rw [hq] at hg
      intro ρ' H' x e s' rx
      exact gc_ok e s' rx hg
  · exact hg.elim
/-- what all defs keep, at a level -/
structure AllAt (g : GL) (CV : Nat → Value) (T : Nat → Option FD) (P : Program) (w : World) (K : PySem.W.Frag) (mg : Str → Option Value) (base : Heap) (n : Nat) : Prop where
  cold : ∀ y i, g.fn y = some i → ∃ b fd ps, mg y = some (.ref b) ∧ PySem.W.keepIn K (.ref b) = true ∧ Binds K fd ps [] ∧ FnOk P w K mg base (L2N.CX P w) n b fd ps (@spE xc0 K CV (callE T n) i)
  warm : ∀ y i, g.fn y = some i → g.hfn i = true → ∃ b fd ps, mg y = some (.ref b) ∧ PySem.W.keepIn K (.ref b) = true ∧ Binds K fd ps [] ∧ FnX P w K mg base (L2N.CX P w) n b fd ps fun p => @spE (xcP CV p) K CV (callE T n) i
/-- ONE DEF, a level up -/
theorem def_ok {n f : Nat} {x qual : Str} {params : Arguments} {body : List Stmt} {sc : Scope} {kws : List (Str × V)} {a : Addr} {fd : FuncData} {N ps : List Str} (FA : Facts g CV K mg)
    (F : FunD K x qual params body sc [] kws a fd) (D : DefOk g T f N ps body sc) (ih : AllAt g CV T P w K mg base n) :
    FnOk P w K mg base (L2N.CX P w) (n + 1) a fd ps (@spE xc0 K CV (callE T (n + 1)) f) := by
  letI : Xc := xc0
  obtain ⟨m, ht, htr⟩ := D.tab
  refine F.ok D.sco (spE_len (ξ := xc0) ht) (fun cdv A outer s H vs Q E hr hsp => ?_)
  have O : @OkS xc0 (g.at N) CV (callE T n) n sc (cxOf (L2N.CX P w) P w K mg base N qual sc a cdv A outer s H E) (fun c d _ H => E c d H) := by
    refine @OkS.mk xc0 _ _ _ _ _ _ _ ?_ (fun _ => L2.passes_of rfl) rfl rfl FA.exm FA.cls
    exact @Ok.mk xc0 _ _ _ _ _ _ _ rfl D.sco.nd (fun _ => rfl) (fun _ => hr) hr.units (L2N.takes_of rfl rfl rfl rfl) (fun x h => lookup_cases h) (fun x h => lookup_gl h) (fun x h => ⟨lookup_loc h, .inl rfl⟩) (fun x h => h) (fun x h => h) (fun x h => h)
      FA.fre FA.cst ih.cold (fun _ _ _ h => h) (fun h => by cases h) (fun _ => ⟨hr.dp, hr.un⟩) ih.warm FA.isx
  exact ⟨_, sndSs (ξ := xc0) htr O, body_sp (ξ := xc0) ht hsp⟩
/-- A DEF CALLED WHERE SOMETHING IS HANDLED: its body walked in that context -/
theorem fnX_of {CX : CXT} {k : Nat} {x qual : Str} {params : Arguments} {body : List Stmt} {sc : Scope} {kws : List (Str × V)} {a : Addr} {fd : FuncData} {N ps : List Str} {sp : Addr × Obj → Sp} (F : FunD K x qual params body sc [] kws a fd) (S : FnScope N ps sc)
    (len : ∀ p vs H Q E, sp p vs H Q E → vs.length = ps.length)
    (walk : ∀ (cv : Value) (A : Around) (up : List Env) (s : Shared) (H : Hp) (vs : List V) (Q : VK) (E : XK) (p : Addr × Obj), L2H.Hot1 A p → L2H.RoomH k (A.deeper (envOfC qual sc s.heap.objs.size a cv)) → sp p vs H Q E →
      ∃ t, PSs (L2H.cxH CX P w K mg base N qual sc a cv A up s H E p) body t ∧ t { nx := fun _ H1 => Q .non H1, rt := Q } (L2.start N vs) H) :
    FnX P w K mg base CX (k + 1) a fd ps sp := by
  obtain ⟨oc, od, dV, kV, doc, pm, an, cv, ct, osl, rfl, lk, rec, _⟩ := F.ex
  refine ⟨len, fun p A up s H args us vs Q E room hot pin e0 bnd rv hsp => ?_⟩
  have grow := fun b o (z : base.get? b = some o) => (e0.bs b o z).1
  have kin := e0.mod.kin.keeps grow
  refine codeAny_call_function (room.depth) (kin _ _ lk) rfl S.co S.gen rfl (PySem.W.codeRec_of kin rec) (bnd _ _ _ _ ?_)
  refine wpAny_newFunctionEnv_cells S.kind (fun y hy => ?_) fun env he s1 inb => ?_
  · have hp : y.1 ∈ ps := (List.of_mem_zip (a := y.1) (b := y.2) hy).1
    cases S.par y.1 hp with
    | inl q => exact .inl q
    | inr q => exact .inr ⟨q, PySem.W.cellsFrom_some _ _ _ (.inl q)⟩
  · subst he
    refine ⟨(e0.mod.nolimit.keeps grow).keeps inb.toInCall.keep, codeAny_func ?_⟩
    obtain ⟨t, tb, go⟩ := walk cv A up s H vs Q E p hot (room.deeper _) hsp
    refine wpAny_mono (tb.run [] s1 (L2.start N vs) H _ (L2H.inv_startH S pin e0 (len _ _ _ _ _ hsp) rv inb) go) (fun fl s2 done => ?_) fun _ _ z => z
    match fl, done with
    | .ret u, done =>
      obtain ⟨v, σ2, H2, J, r, q⟩ := done
      exact ⟨v, H2, J.os, J.bare, J.base, J.hok, r, q⟩
    | .next, done =>
      obtain ⟨σ2, H2, J, q⟩ := done
      exact ⟨V.non, H2, J.os, J.bare, J.base, J.hok, rfl, q⟩
    | .brk, done =>
      obtain ⟨_, _, _, z⟩ := done
      exact z.elim
    | .cont, done =>
      obtain ⟨_, _, _, z⟩ := done
      exact z.elim
theorem def_okH {n f : Nat} {x qual : Str} {params : Arguments} {body : List Stmt} {sc : Scope} {kws : List (Str × V)} {a : Addr} {fd : FuncData} {N ps : List Str} (FA : Facts g CV K mg)
    (F : FunD K x qual params body sc [] kws a fd) (D : DefOk g T f N ps body sc) (hf : g.hfn f = true) (ih : AllAt g CV T P w K mg base n) :
    FnX P w K mg base (L2N.CX P w) (n + 1) a fd ps fun p => @spE (xcP CV p) K CV (callE T (n + 1)) f := by
  letI : Xc := xc0
  obtain ⟨m, ht, htr⟩ := D.tabH hf
  refine fnX_of F D.sco (fun p => spE_len (ξ := xcP CV p) ht) (fun cdv A outer s H vs Q E p hot hr hsp => ?_)
  have O : @OkS (xcP CV p) (g.at N).heat CV (callE T n) n sc (L2H.cxH (L2N.CX P w) P w K mg base N qual sc a cdv A outer s H E p) (fun c d _ H => E c d H) := by
    refine @OkS.mk (xcP CV p) _ _ _ _ _ _ _ ?_ (fun h => by cases h) rfl rfl FA.exm FA.cls
    exact @Ok.mk (xcP CV p) _ _ _ _ _ _ _ rfl D.sco.nd (fun h => by cases h) (fun h => by cases h) (by have := hr.un; show A.units + 3 + 64 < _; have h2 : A.units + 3 + 16 * n + 200 < cLine := this; omega) (L2N.takes_of rfl rfl rfl rfl) (fun x h => lookup_cases h) (fun x h => lookup_gl h) (fun x h => ⟨lookup_loc h, .inl rfl⟩) (fun x h => h) (fun x h => h) (fun x h => h)
      FA.fre FA.cst ih.cold (fun h => by cases h) (fun _ => ⟨p, hot, List.mem_cons_self, rfl⟩) (fun _ => hr) ih.warm FA.isx
  exact ⟨_, sndSs (ξ := xcP CV p) htr O, body_sp (ξ := xcP CV p) ht hsp⟩
theorem zero_ok {f : Nat} {a : Addr} {fd : FuncData} {ps : List Str} {CX : CXT} : FnOk P w K mg base CX 0 a fd ps (@spE xc0 K CV (callE T 0) f) := by
  have no : ∀ vs H Q E, ¬ @spE xc0 K CV (callE T 0) f vs H Q E := fun vs H Q E ⟨ρ, S, qs, sim, r, h⟩ => h
  exact ⟨fun vs H Q E h => absurd h (no vs H Q E), fun A outer s H args us vs Q E _ _ _ _ h => absurd h (no vs H Q E)⟩
theorem zero_okH {f : Nat} {a : Addr} {fd : FuncData} {ps : List Str} {CX : CXT} : FnX P w K mg base CX 0 a fd ps fun p => @spE (xcP CV p) K CV (callE T 0) f := by
  have no : ∀ p vs H Q E, ¬ @spE (xcP CV p) K CV (callE T 0) f vs H Q E := fun p vs H Q E ⟨ρ, S, qs, sim, r, h⟩ => h
  exact ⟨fun p vs H Q E h => absurd h (no p vs H Q E), fun p A outer s H us' us vs Q E _ _ _ _ _ _ h => absurd h (no p vs H Q E)⟩
/-- ALL DEFS, at every level -/
theorem all_ok (FA : Facts g CV K mg)
    (D : ∀ y i, g.fn y = some i → ∃ (a : Addr) (fd : FuncData) (qual : Str) (params : Arguments) (body : List Stmt) (sc : Scope) (N ps : List Str), mg y = some (.ref a) ∧ FunD K y qual params body sc [] [] a fd ∧ Binds K fd ps [] ∧ DefOk g T i N ps body sc) :
    ∀ n, AllAt g CV T P w K mg base n
  | 0 => by
    refine ⟨fun y i h => ?_, fun y i h _ => ?_⟩
    · obtain ⟨a, fd, qual, params, body, sc, N, ps, hm, F, hb, _⟩ := D y i h
      exact ⟨a, fd, ps, hm, F.kp, hb, zero_ok⟩
    · obtain ⟨a, fd, qual, params, body, sc, N, ps, hm, F, hb, _⟩ := D y i h
      exact ⟨a, fd, ps, hm, F.kp, hb, zero_okH⟩
  | n + 1 => by
    refine ⟨fun y i h => ?_, fun y i h hf => ?_⟩
    · obtain ⟨a, fd, qual, params, body, sc, N, ps, hm, F, hb, d⟩ := D y i h
      exact ⟨a, fd, ps, hm, F.kp, hb, def_ok FA F d (all_ok FA D n)⟩
    · obtain ⟨a, fd, qual, params, body, sc, N, ps, hm, F, hb, d⟩ := D y i h
      exact ⟨a, fd, ps, hm, F.kp, hb, def_okH FA F d hf (all_ok FA D n)⟩
end
end Kp

set_option Elab.async false
set_option linter.all false
set_option maxRecDepth 100000
set_option maxHeartbeats 8000000
set_option autoImplicit false
/-! K12: the text read into the small language. -/
namespace Kp
open PySem PySem.Spec PyProof.Rows L2
abbrev OE (C : TC) (sc : Scope) (e : Expr) : Type := Option {m : Ex // TrE C sc e m}
def bopI : (o : Operator) → Option {b : Bop // opOf b = o}
  | .Add => some ⟨.add, rfl⟩ | .Sub => some ⟨.sub, rfl⟩ | .Mult => some ⟨.mul, rfl⟩ | .FloorDiv => some ⟨.fdiv, rfl⟩ | .Mod => some ⟨.mod, rfl⟩ | .Pow => some ⟨.pow, rfl⟩
  | _ => none
def copI : (o : CmpOp) → {b : Cop // copOf b = o}
  | .Eq => ⟨.eq, rfl⟩ | .NotEq => ⟨.ne, rfl⟩ | .Lt => ⟨.lt, rfl⟩ | .LtE => ⟨.le, rfl⟩ | .Gt => ⟨.gt, rfl⟩ | .GtE => ⟨.ge, rfl⟩ | .Is => ⟨.is, rfl⟩ | .IsNot => ⟨.isn, rfl⟩ | .In => ⟨.inn, rfl⟩ | .NotIn => ⟨.nin, rfl⟩
def mtI (a : Str) : List Mt → Option {b : Mt // mtNm b = a ∧ mtArg b < 20}
  | [] => none
  | b :: r => if h : mtNm b = a ∧ mtArg b < 20 then some ⟨b, h⟩ else mtI a r
def tyI (a : Str) : List Ty → Option {t : Ty // (tyId t : Str) = a}
  | [] => none
  | b :: r => if h : (tyId b : Str) = a then some ⟨b, h⟩ else tyI a r
def allTy : List Ty := [.tup, .lst, .str, .int, .bool]
def isNm (b : Option String) (f : Str) : Bool := match b with
  | some id => decide ((id : Str) = f)
  | none => false
theorem isNm_ok {b : Option String} {f : Str} (h : isNm b f = true) : ∃ id : String, b = some id ∧ (id : Str) = f := by
  cases b with
  | none => cases h
  | some id => exact ⟨id, rfl, of_decide_eq_true h⟩
def biI (f : Str) (n : Nat) : List Bi → Option {b : Bi // (∃ id : String, biId b = some id ∧ (id : Str) = f) ∧ arB b n = true}
  | [] => none
  | b :: r => if h : isNm (biId b) f = true ∧ arB b n = true then some ⟨b, isNm_ok h.1, h.2⟩ else biI f n r
def btI (f : Str) : List Bi → Option {b : Bi // ∃ id : String, biTy b = some id ∧ (id : Str) = f}
  | [] => none
  | b :: r => if h : isNm (biTy b) f = true then some ⟨b, isNm_ok h⟩ else btI f r
def nmI (C : TC) (x : Str) : Option {i : Nat // C.N[i]? = some x} := if h : C.N[C.N.idxOf x]? = some x then some ⟨_, h⟩ else none
section
variable (C : TC) (r : ∀ (sc : Scope) (e : Expr), OE C sc e)
def trEs (sc : Scope) : (es : List Expr) → Option {ms : Exs // TrEs C sc es ms}
  | [] => some ⟨.nil, .nil⟩
  | e :: es => match r sc e, trEs sc es with
    | some ⟨m, h⟩, some ⟨ms, hs⟩ => some ⟨.cons m ms, .cons h hs⟩
    | _, _ => none
def trEs1 (sc : Scope) (e : Expr) (es : List Expr) : Option {p : Ex × Exs // TrEs C sc (e :: es) (.cons p.1 p.2)} := match r sc e, trEs C r sc es with
  | some ⟨m, h⟩, some ⟨ms, hs⟩ => some ⟨(m, ms), .cons h hs⟩
  | _, _ => none
def trO (sc : Scope) : (e : Option Expr) → Option {m : Oe // TrO C sc e m}
  | none => some ⟨.non, .non⟩
  | some e => match r sc e with
    | some ⟨m, h⟩ => some ⟨.one m, .one h⟩
    | none => none
def trC (sc : Scope) : (e : List Expr) → Option {m : Oe // TrC C sc e m}
  | [] => some ⟨.non, .non⟩
  | [e] => match r sc e with
    | some ⟨m, h⟩ => some ⟨.one m, .one h⟩
    | none => none
  | _ => none
def trD (sc : Scope) : (ks : List (Option Expr)) → (es : List Expr) → Option {p : List Str × Exs // TrD C sc ks es p.1 p.2}
  | [], [] => some ⟨([], .nil), .nil⟩
  | some (.Constant (.str k) _ _) :: ks, e :: es => match r sc e, trD sc ks es with
    | some ⟨m, h⟩, some ⟨ms, hs⟩ => some ⟨(k :: ms.1, .cons m ms.2), .cons h hs⟩
    | _, _ => none
  | _, _ => none
def trBA (sc : Scope) : (es : List Expr) → Option {m : Ex // TrB C sc .And es m}
  | [] => none
  | [a] => match r sc a with
    | some ⟨m, h⟩ => some ⟨m, .one h⟩
    | none => none
  | a :: b :: q => match r sc a, trBA sc (b :: q) with
    | some ⟨m, h⟩, some ⟨ms, hs⟩ => some ⟨.and' m ms, .and' h hs⟩
    | _, _ => none
def trBO (sc : Scope) : (es : List Expr) → Option {m : Ex // TrB C sc .Or es m}
  | [] => none
  | [a] => match r sc a with
    | some ⟨m, h⟩ => some ⟨m, .one h⟩
    | none => none
  | a :: b :: q => match r sc a, trBO sc (b :: q) with
    | some ⟨m, h⟩, some ⟨ms, hs⟩ => some ⟨.or' m ms, .or' h hs⟩
    | _, _ => none
def trIv (sc : Scope) (tg : Expr) (e : Expr) : Option {m : Ix // TrI C sc tg e m} := match r sc e with
  | some ⟨m, h⟩ => if hs : isSet e = false then some ⟨.val m, .val h hs⟩ else none
  | none => none
def trI (sc : Scope) (tg : Expr) : (e : Expr) → Option {m : Ix // TrI C sc tg e m}
  | .Call (.Name f p) [a] [] pos => if hf : f = ("range" : Str) ∧ glB sc ("range" : Str) = true ∧ C.fre ("range" : Str) = true then
      (match r sc a with
      | some ⟨m, h⟩ => some ⟨.rng1 m, by obtain ⟨rfl, h1, h2⟩ := hf; exact .rng1 h1 h2 h⟩
      | none => none)
    else if hf : f = ("reversed" : Str) ∧ glB sc ("reversed" : Str) = true ∧ C.fre ("reversed" : Str) = true then
      (match a with
      | .Call (.Name f2 p2) [b] [] pos2 => if hg : f2 = ("range" : Str) ∧ glB sc ("range" : Str) = true ∧ C.fre ("range" : Str) = true then
          (match r sc b with
          | some ⟨m, h⟩ => some ⟨.revR m, by obtain ⟨rfl, h1, h2⟩ := hf; obtain ⟨rfl, h3, h4⟩ := hg; exact .revR h3 h4 h1 h2 h⟩
          | none => none)
        else (match r sc (.Call (.Name f2 p2) [b] [] pos2) with
          | some ⟨m, h⟩ => some ⟨.revL m, by obtain ⟨rfl, h1, h2⟩ := hf; exact .revL h1 h2 h⟩
          | none => none)
      | a => (match r sc a with
          | some ⟨m, h⟩ => some ⟨.revL m, by obtain ⟨rfl, h1, h2⟩ := hf; exact .revL h1 h2 h⟩
          | none => none))
    else trIv C r sc tg (.Call (.Name f p) [a] [] pos)
  | .Call (.Name f p) [a, b] [] pos => if hf : f = ("range" : Str) ∧ glB sc ("range" : Str) = true ∧ C.fre ("range" : Str) = true then
      (match r sc a, r sc b with
      | some ⟨m, h⟩, some ⟨m', h'⟩ => some ⟨.rng2 m m', by obtain ⟨rfl, h1, h2⟩ := hf; exact .rng2 h1 h2 h h'⟩
      | _, _ => none)
    else if hf : f = ("zip" : Str) ∧ glB sc ("zip" : Str) = true ∧ C.fre ("zip" : Str) = true then
      (match tg, r sc a, r sc b with
      | .Tuple elts kk tpos, some ⟨m, h⟩, some ⟨m', h'⟩ => some ⟨.zip m m', by obtain ⟨rfl, h1, h2⟩ := hf; exact .zip h1 h2 h h'⟩
      | _, _, _ => none)
    else trIv C r sc tg (.Call (.Name f p) [a, b] [] pos)
  | e => trIv C r sc tg e
def trNm (sc : Scope) (x : Str) (pos : Pos) : OE C sc (.Name x pos) :=
  if hd : dbg x = true then
    if hv : visB sc x = true then
      (match nmI C x with
      | some ⟨i, h⟩ => some ⟨.v i, .v h hv hd⟩
      | none => none)
    else if hg : glB sc x = true then
      (match hk : C.cst x with
      | some k => some ⟨.c k, .glob hg hd hk⟩
      | none => none)
    else none
  else none
def trNs (sc : Scope) : (es : List Expr) → Option {xs : List Str // TrNs sc es xs}
  | [] => some ⟨[], .nil⟩
  | .Name x _ :: es => if h : glB sc x = true ∧ dbg x = true then
      (match trNs sc es with
      | some ⟨xs, hs⟩ => some ⟨x :: xs, .cons h.1 h.2 hs⟩
      | none => none)
    else none
  | _ :: _ => none
def trIs (sc : Scope) (f : Str) (p : Pos) (hg : glB sc f = true) (hf : C.fre f = true) (a b : Expr) (pos : Pos) : OE C sc (.Call (.Name f p) [a, b] [] pos) :=
  if hi : f = ("isinstance" : Str) then
    match b with
    | .Name t p2 => if h : glB sc t = true ∧ C.fre t = true then
        (match tyI t allTy, r sc a with
        | some ⟨ty, ht⟩, some ⟨m, h3⟩ => some ⟨.isi m ty, by subst hi; subst ht; exact .isi hg hf h.1 h.2 h3⟩
        | none, some ⟨m, h3⟩ => if hd : dbg t = true then some ⟨.isx m (yesX C [t]) (noX C [t]), by subst hi; exact .isx hg hf h3 h.1 hd⟩ else none
        | _, _ => none)
      else if h : glB sc t = true ∧ dbg t = true then
        (match r sc a with
        | some ⟨m, h3⟩ => some ⟨.isx m (yesX C [t]) (noX C [t]), by subst hi; exact .isx hg hf h3 h.1 h.2⟩
        | none => none)
      else none
    | .Tuple ts k p2 => (match trNs sc ts, r sc a with
        | some ⟨xs, h2⟩, some ⟨m, h3⟩ => if h : ts.length ≤ 1000 ∧ xs.isEmpty = false then some ⟨.isx m (yesX C xs) (noX C xs), by subst hi; exact .isxT hg hf h3 h2 h.1 h.2⟩ else none
        | _, _ => none)
    | _ => none
  else none
def trCall (sc : Scope) (f : Str) (p : Pos) (e : Expr) (es : List Expr) (pos : Pos) : OE C sc (.Call (.Name f p) (e :: es) [] pos) :=
  if hg : glB sc f = true then
    match hk : C.fn f with
    | some i => if hd : dbg f = true ∧ (C.hot && !C.hfn i) = false then (match trEs1 C r sc e es with
      | some ⟨ms, h⟩ => some ⟨.call i (.cons ms.1 ms.2), .call hd.2 hg hd.1 hk h⟩
      | none => none) else none
    | none => if hf : C.fre f = true then
        (match biI f (e :: es).length [.len, .sum, .all, .max1, .max2, .min2, .sorted] with
        | some ⟨b, hb⟩ => if hh : (C.hot && !hotBi b) = false then (match trEs1 C r sc e es with
          | some ⟨ms, h⟩ => some ⟨.bi b (.cons ms.1 ms.2), by obtain ⟨⟨id, h1, rfl⟩, h2⟩ := hb; exact .bi hh h1 h2 hg hf h⟩
          | none => none) else none
        | none => (match btI f [.tup, .lst, .int, .str, .dict] with
          | some ⟨b, hb⟩ => if hh : (C.hot && !hotBi b) = false then (match trEs1 C r sc e es with
            | some ⟨ms, h⟩ => some ⟨.bi b (.cons ms.1 ms.2), by obtain ⟨id, h1, rfl⟩ := hb; exact .bt hh h1 hg hf h⟩
            | none => none) else none
          | none => (match es with
            | [b] => trIs C r sc f p hg hf e b pos
            | _ => none)))
      else none
  else none
def trCall0 (sc : Scope) (f : Str) (p pos : Pos) : OE C sc (.Call (.Name f p) [] [] pos) :=
  if h : glB sc f = true ∧ dbg f = true then
    (match hk : C.fn f with
    | some i => if hh : (C.hot && !C.hfn i) = false then some ⟨.call i .nil, .call0 hh h.1 h.2 hk⟩ else none
    | none => none)
  else none
def trMth (sc : Scope) (o : Expr) (a : Str) (apos : Pos) (es : List Expr) (cpos : Pos) : OE C sc (.Call (.Attribute o a apos) es [] cpos) :=
  match mtI a [.append, .get2, .pop0, .reverse, .join, .index, .count, .insert] with
  | some ⟨mt, hm⟩ => if h : es.length = mtArg mt ∧ baseB o = true ∧ (apos.endLine == cpos.line) = true then
      (match r sc o, trEs C r sc es with
      | some ⟨m, h1⟩, some ⟨ms, h2⟩ => some ⟨.mth mt m ms, by obtain ⟨rfl, hm2⟩ := hm; exact .mth h1 h2 h.1 hm2 h.2.1 h.2.2⟩
      | _, _ => none)
    else none
  | none => none
def trSub (sc : Scope) (a b : Expr) (pos : Pos) : OE C sc (.Subscript a b pos) := match r sc a with
  | none => none
  | some ⟨x, hx⟩ => match b with
    | .Slice none none (some (.UnaryOp .USub (.Constant (.int 1) k p1) p2)) p3 => some ⟨.rev x, .rev hx⟩
    | .Slice lo hi none p2 => (match trO C r sc lo, trO C r sc hi with
      | some ⟨l, h1⟩, some ⟨h, h2⟩ => some ⟨.sl x l h, .sl hx h1 h2⟩
      | _, _ => none)
    | b => (match r sc b with
      | some ⟨y, hy⟩ => if hs : isSl b = false then some ⟨.ix x y, .ix hx hy hs⟩ else none
      | none => none)
def trComp (sc sc' : Scope) (elt : Expr) (x : Str) (tp : Pos) (iter : Expr) (ifs : List Expr) (pos : Pos) : OE C sc (.ListComp elt [⟨.Name x tp, iter, ifs, 0⟩] sc' pos) :=
  match nmI C x with
  | none => none
  | some ⟨i, hi⟩ => if h : C.hot = false ∧ blkC C.N sc sc' [(x, i)] = true ∧ locB sc' x = true then
      (match trI C r sc (.Name x tp) iter, trC C r sc' ifs, r sc' elt with
      | some ⟨it, h1⟩, some ⟨t, h2⟩, some ⟨e, h3⟩ => some ⟨.comp i it t e, .comp h.1 h1 h.2.1 h.2.2 hi h2 h3⟩
      | _, _, _ => none)
    else none
def trMax (sc : Scope) (f : Str) (p : Pos) (a : Expr) (kw : Str) (d : Expr) (kp pos : Pos) : OE C sc (.Call (.Name f p) [a] [⟨some kw, d, kp⟩] pos) :=
  if h : (C.hot = false ∧ f = ("max" : Str) ∧ kw = ("default" : Str)) ∧ glB sc ("max" : Str) = true ∧ C.fre ("max" : Str) = true then
    (match r sc a, r sc d with
    | some ⟨x, hx⟩, some ⟨y, hy⟩ => some ⟨.bi .maxd (.cons x (.cons y .nil)), by obtain ⟨⟨hh, rfl, rfl⟩, h1, h2⟩ := h; exact .mxd hh h1 h2 hx hy⟩
    | _, _ => none)
  else none
def trE1 (sc : Scope) : (e : Expr) → OE C sc e
  | .Name x pos => trNm C sc x pos
  | .Constant (.int i) _ _ => some ⟨.c (.int i), .int⟩
  | .Constant (.bool i) _ _ => some ⟨.c (.bool i), .bl⟩
  | .Constant .none _ _ => some ⟨.c .none, .non⟩
  | .Constant (.str i) _ _ => some ⟨.c (.str i), .str⟩
  | .BinOp a o b _ => (match bopI o, r sc a, r sc b with
    | some ⟨p, hp⟩, some ⟨x, h1⟩, some ⟨y, h2⟩ => some ⟨.bin p x y, by subst hp; exact .bin h1 h2⟩
    | _, _, _ => none)
  | .Compare a [o] [b] _ => (match copI o, r sc a, r sc b with
    | ⟨p, hp⟩, some ⟨x, h1⟩, some ⟨y, h2⟩ => if hs : isSet b = false then some ⟨.cmp p x y, by subst hp; exact .cmp h1 h2 hs⟩ else none
    | _, _, _ => none)
  | .UnaryOp .USub a _ => (match r sc a with
    | some ⟨x, h⟩ => some ⟨.neg x, .neg h⟩
    | none => none)
  | .UnaryOp .Not a _ => (match r sc a with
    | some ⟨x, h⟩ => some ⟨.not' x, .not' h⟩
    | none => none)
  | .IfExp t a b _ => (match r sc t, r sc a, r sc b with
    | some ⟨w, h1⟩, some ⟨x, h2⟩, some ⟨y, h3⟩ => some ⟨.ife w x y, .ife h1 h2 h3⟩
    | _, _, _ => none)
  | .BoolOp .And (a :: b :: q) _ => (match trBA C r sc (a :: b :: q) with
    | some ⟨x, h⟩ => some ⟨x, .and' h⟩
    | none => none)
  | .BoolOp .Or (a :: b :: q) _ => (match trBO C r sc (a :: b :: q) with
    | some ⟨x, h⟩ => some ⟨x, .or' h⟩
    | none => none)
  | .Tuple es _ _ => (match trEs C r sc es with
    | some ⟨x, h⟩ => if hl : es.length ≤ 1000 then some ⟨.tup x, .tup h hl⟩ else none
    | none => none)
  | .List es _ => (match trEs C r sc es with
    | some ⟨x, h⟩ => some ⟨.lst x, .lst h⟩
    | none => none)
  | .Dict [] [] _ => some ⟨.dct [] .nil, .dct0⟩
  | .Dict (k :: ks) vs _ => (match trD C r sc (k :: ks) vs with
    | some ⟨p, h⟩ => if hl : (k :: ks).length ≤ 15 then some ⟨.dct p.1 p.2, .dct h hl⟩ else none
    | none => none)
  | .Subscript a b pos => trSub C r sc a b pos
  | .Call (.Name f p) (e :: es) [] pos => trCall C r sc f p e es pos
  | .Call (.Name f p) [] [] pos => trCall0 C sc f p pos
  | .Call (.Name f p) [a] [⟨some kw, d, kp⟩] pos => trMax C r sc f p a kw d kp pos
  | .Call (.Attribute o a apos) es [] cpos => trMth C r sc o a apos es cpos
  | .ListComp elt [⟨.Name x tp, iter, ifs, 0⟩] sc' pos => trComp C r sc sc' elt x tp iter ifs pos
  | _ => none
end
def trE (C : TC) : Nat → ∀ (sc : Scope) (e : Expr), OE C sc e
  | 0 => fun _ _ => none
  | n + 1 => trE1 C (trE C n)
abbrev OS (C : TC) (sc : Scope) (s : Stmt) : Type := Option {m : Sm // TrS C sc s m}
abbrev RE : Type := ∀ (C : TC) (sc : Scope) (e : Expr), OE C sc e
abbrev RS' : Type := ∀ (C : TC) (sc : Scope) (s : Stmt), OS C sc s
section
variable (e : RE) (r : RS')
def trGs (C : TC) (sc : Scope) : (es : List Expr) → Option {is : List Nat // TrGs C sc es is}
  | [] => some ⟨[], .nil⟩
  | .Name x p :: es => (match nmI C x, trGs C sc es with
    | some ⟨i, hi⟩, some ⟨is, hs⟩ => if h : locB sc x = true then some ⟨i :: is, .cons hi h hs⟩ else none
    | _, _ => none)
  | _ => none
def trG (C : TC) (sc : Scope) : (t : Expr) → Option {m : Tg // TrG C sc t m}
  | .Name x p => (match nmI C x with
    | some ⟨i, hi⟩ => if h : locB sc x = true then some ⟨.nm i, .nm hi h⟩ else none
    | none => none)
  | .Tuple es k p => (match trGs C sc es with
    | some ⟨is, h⟩ => if hh : C.hot = false then some ⟨.tp is, .tp hh h⟩ else none
    | none => none)
  | _ => none
def trSs (C : TC) (sc : Scope) : (ss : List Stmt) → Option {m : Sms // TrSs C sc ss m}
  | [] => some ⟨.nil, .nil⟩
  | s :: ss => match r C sc s, trSs C sc ss with
    | some ⟨m, h⟩, some ⟨ms, hs⟩ => some ⟨.cons m ms, .cons h hs⟩
    | _, _ => none
def clI (C : TC) (sc : Scope) (x : Str) : Option {k : Nat // glB sc x = true ∧ dbg x = true ∧ C.cls x = some k} := if h : glB sc x = true ∧ dbg x = true then
    (match hc : C.cls x with
    | some c => some ⟨c, h.1, h.2, rfl⟩
    | none => none)
  else none
def trHs (C : TC) (sc : Scope) : (hs : List ExceptHandler) → Option {h : Hs // TrHs C sc hs h}
  | [] => some ⟨.nil, .nil⟩
  | .ExceptHandler (some (.Name x np)) none (b₀ :: suite) pos' :: hs => (match clI C sc x, trSs r C.heat sc (b₀ :: suite), trHs C sc hs with
    | some ⟨k, h1, h2, h3⟩, some ⟨m, hm⟩, some ⟨h, hh⟩ => some ⟨.cons (yesL C k) (noL C k) m h, .cons h1 h2 h3 hm hh⟩
    | _, _, _ => none)
  | _ => none
def trTry (C : TC) (sc : Scope) (b : List Stmt) (pos : Pos) : (hs : List ExceptHandler) → OS C sc (.Try b hs [] [] pos)
  | [] => none
  | [.ExceptHandler (some (.Name x np)) (some n) (b₀ :: suite) pos'] => if hh : C.hot = false ∧ sc.names.lookup n = some .local then
      (match clI C sc x, trSs r C sc b, nmI C n, trSs r C.heat sc (b₀ :: suite) with
      | some ⟨k, h1, h2, h3⟩, some ⟨m, hm⟩, some ⟨i, hi⟩, some ⟨h, hs⟩ => some ⟨.tryA m (yesL C k) (noL C k) i h, .tryA hh.1 hm h1 h2 h3 hi hh.2 hs⟩
      | _, _, _, _ => none)
    else none
  | h₀ :: hs => if hh : C.hot = false then
      (match trSs r C sc b, trHs r C sc (h₀ :: hs) with
      | some ⟨m, hm⟩, some ⟨h, ht⟩ => some ⟨.tryM m h, .tryM hh hm ht⟩
      | _, _ => none)
    else none
def trS1 (C : TC) (sc : Scope) : (s : Stmt) → OS C sc s
  | .Assign [.Name x p] v pos => (match nmI C x, e C sc v with
    | some ⟨i, hi⟩, some ⟨m, hm⟩ => if h : locB sc x = true then
        (if hl : isLc v = false then some ⟨.asg (.nm i) m, .asgN hi h hm hl⟩
        else if hl : swB sc x p v = true then some ⟨.asg (.nm i) m, .asgC hi h hm hl⟩
        else if hl : sc.names.lookup x = some .cell then some ⟨.asg (.nm i) m, .asgD hi h hm hl⟩ else none)
      else none
    | _, _ => none)
  | .Assign [.Tuple es k p] v pos => (match trGs C sc es, e C sc v with
    | some ⟨is, hi⟩, some ⟨m, hm⟩ => if h : C.hot = false ∧ isLc v = false ∧ isTup v = false then some ⟨.asg (.tp is) m, .asgT h.1 hi hm h.2.1 h.2.2⟩ else none
    | _, _ => none)
  | .Assign [.Subscript o i p] v pos => (match e C sc o, e C sc i, e C sc v with
    | some ⟨x, hx⟩, some ⟨y, hy⟩, some ⟨z, hz⟩ => if h : isLc v = false ∧ isSl i = false then some ⟨.setI x y z, .setI hx hy hz h.1 h.2⟩ else none
    | _, _, _ => none)
  | .Expr v pos => (match e C sc v with
    | some ⟨m, hm⟩ => if h : isLc v = false then some ⟨.ex m, .ex hm h⟩ else none
    | none => none)
  | .Return (some v) pos => (match e C sc v with
    | some ⟨m, hm⟩ => some ⟨.ret m, .ret hm⟩
    | none => none)
  | .Return none pos => some ⟨.retN, .retN⟩
  | .If t a b pos => (match e C sc t, trSs r C sc a, trSs r C sc b with
    | some ⟨x, hx⟩, some ⟨y, hy⟩, some ⟨z, hz⟩ => some ⟨.ift x y z, .ift hx hy hz⟩
    | _, _, _ => none)
  | .For t it b [] pos => if hh : C.hot = false then (match trG C sc t, trI C (e C) sc t it, trSs r C sc b with
    | some ⟨x, hx⟩, some ⟨y, hy⟩, some ⟨z, hz⟩ => some ⟨.for' x y z, .for' hh hx hy hz⟩
    | _, _, _ => none) else none
  | .While t b [] pos => if hh : C.hot = false then (match e C sc t, trSs r C sc b with
    | some ⟨x, hx⟩, some ⟨z, hz⟩ => some ⟨.while x z, .while hh hx hz⟩
    | _, _ => none) else none
  | .Raise (some (.Call (.Name x p) [.Constant (.str m) j p2] [] p3)) none pos => if hh : C.hot = false then (match clI C sc x with
      | some ⟨c, h1, h2, h3⟩ => some ⟨.raise c, .raise hh h1 h2 h3⟩
      | none => none) else none
  | .Try b hs [] [] pos => trTry r C sc b pos hs
  | .Continue pos => some ⟨.cont, .cont⟩
  | .Pass pos => some ⟨.pass, .pass⟩
  | _ => none
end
def trS : Nat → RS'
  | 0 => fun _ _ _ => none
  | n + 1 => trS1 (fun C => trE C 40) (trS n)
/-- a def's small form -/
def readD (C : TC) (sc : Scope) (b : List Stmt) : Option Sms := (trSs (trS 20) C sc b).map (·.1)
theorem readD_ok {C : TC} {sc : Scope} {b : List Stmt} {m : Sms} (h : readD C sc b = some m) : TrSs C sc b m := by
  unfold readD at h
  cases q : trSs (trS 20) C sc b with
  | none => rw [q] at h; cases h
  | some p => rw [q] at h; cases h; exact p.2
end Kp

set_option Elab.async false
set_option linter.all false
set_option maxRecDepth 100000
set_option maxHeartbeats 8000000
set_option autoImplicit false
/-! K13: from a law's tables to its end. -/
namespace Kp
open PySem PySem.Spec PyProof.Rows L2
/-- a def of the text: where it stands, its names, its small form -/
structure DD where
  st : Stmt
  x : Str
  N : List Str
  ps : List Str
  m : Sms
inductive Cst where
  | int (i : Int)
  | str (s : Str)
def Cst.p : Cst → P
  | .int i => .int i
  | .str s => .str s
def Cst.fa (x : Str) : Cst → He.Fa
  | .int i => .int x i
  | .str s => .str x s
def ixOf (x : Str) (f : DD → Str) : List DD → Nat → Option Nat
  | [], _ => none
  | d :: r, k => if f d = x then some k else ixOf x f r (k + 1)
theorem ixOf_get {x : Str} {f : DD → Str} : ∀ {ds : List DD} {k i : Nat}, ixOf x f ds k = some i → ∃ j d, i = k + j ∧ ds[j]? = some d ∧ f d = x
  | [], k, i, h => by cases h
  | d :: r, k, i, h => by
    unfold ixOf at h
    split at h
    · rename_i e
      cases h
      exact ⟨0, d, rfl, rfl, e⟩
    · obtain ⟨j, d', e1, e2, e3⟩ := ixOf_get h
      exact ⟨j + 1, d', by omega, e2, e3⟩
def ixS (x : Str) : List Str → Nat → Option Nat
  | [], _ => none
  | y :: r, k => if y = x then some k else ixS x r (k + 1)
theorem ixS_get {x : Str} : ∀ {ds : List Str} {k i : Nat}, ixS x ds k = some i → ∃ j, i = k + j ∧ ds[j]? = some x
  | [], k, i, h => by cases h
  | d :: r, k, i, h => by
    unfold ixS at h
    split at h
    · rename_i e
      cases h
      subst e
      exact ⟨0, rfl, rfl⟩
    · obtain ⟨j, e1, e2⟩ := ixS_get h
      exact ⟨j + 1, by omega, e2⟩
def lkC (x : Str) : List (Str × Cst) → Option P
  | [] => none
  | (y, c) :: r => if y = x then some c.p else lkC x r
theorem lkC_get {x : Str} {p : P} : ∀ {ds : List (Str × Cst)}, lkC x ds = some p → ∃ c, (x, c) ∈ ds ∧ c.p = p
  | [], h => by cases h
  | (y, c) :: r, h => by
    unfold lkC at h
    split at h
    · rename_i e
      cases h; subst e
      exact ⟨c, List.mem_cons_self, rfl⟩
    · obtain ⟨c', m, e⟩ := lkC_get h
      exact ⟨c', List.mem_cons_of_mem _ m, e⟩
def lkE (c k : Nat) : List (Nat × Nat × Bool) → Option Bool
  | [] => none
  | (a, b, v) :: r => if a = c ∧ b = k then some v else lkE c k r
theorem lkE_get {c k : Nat} {v : Bool} : ∀ {l : List (Nat × Nat × Bool)}, lkE c k l = some v → (c, k, v) ∈ l
  | [], h => by cases h
  | (a, b, u) :: r, h => by
    unfold lkE at h
    split at h
    · rename_i e
      obtain ⟨rfl, rfl⟩ := e
      cases h
      exact List.mem_cons_self
    · exact List.mem_cons_of_mem _ (lkE_get h)
def VEr : Str := "ValueError"
def lkI (x : Str) (c : Nat) : List (Str × Nat × Bool) → Option Bool
  | [] => none
  | (y, b, v) :: r => if y = x ∧ b = c then some v else lkI x c r
theorem lkI_get {x : Str} {c : Nat} {v : Bool} : ∀ {l : List (Str × Nat × Bool)}, lkI x c l = some v → (x, c, v) ∈ l
  | [], h => by cases h
  | (y, b, u) :: r, h => by
    unfold lkI at h
    split at h
    · rename_i e
      obtain ⟨rfl, rfl⟩ := e
      cases h
      exact List.mem_cons_self
    · exact List.mem_cons_of_mem _ (lkI_get h)
/-- which defs are called where one is handled; of which classes are the instances -/
structure Hot where
  hot : List Nat := []
  isx : List (Str × Nat × Bool) := []
def glOf (dd : List DD) (fre : List Str) (cst : List (Str × Cst)) (cls : List Str) (exm : List (Nat × Nat × Bool)) (ht : Hot := {}) : GL where
  fn x := ixOf x (·.x) dd 0
  cst x := lkC x cst
  cls x := ixS x cls 0
  fre x := fre.any fun y => decide (y = x)
  exm c k := lkE c k exm
  ncl := cls.length
  hfn f := ht.hot.any fun i => decide (i = f)
  isx x c := if c < cls.length then (if x = VEr then (if (fre.any fun y => decide (y = VEr)) = true then lkI x c ht.isx else none) else if (cls.any fun y => decide (y = x)) = true then lkI x c ht.isx else none) else none
def tabOf (dd : List DD) (f : Nat) : Option FD := match dd[f]? with
  | some d => some ⟨d.ps.length, d.N.length, d.m⟩
  | none => none
structure Stc (g : GL) (T : Nat → Option FD) (d : DD) (i : Nat) : Prop where
  ok : DefOk g T i d.N d.ps (defBody d.st) (defScope d.st)
  b : ∀ (kV doc pm : Value) (an : Option Addr) (cdv ct : Value) (us : List Value), us.length = d.ps.length → bindArgs (PySem.W.fnOf d.x d.x (defArgs d.st) (defBody d.st) (defScope d.st) .none kV doc pm an cdv ct) ⟨us, []⟩ = pure (d.ps.zip us)
def AllS (g : GL) (T : Nat → Option FD) : List DD → Nat → Prop
  | [], _ => True
  | d :: r, i => Stc g T d i ∧ AllS g T r (i + 1)
theorem AllS.get {g : GL} {T : Nat → Option FD} : ∀ {ds : List DD} {k j : Nat} {d : DD}, AllS g T ds k → ds[j]? = some d → Stc g T d (k + j)
  | [], k, j, d, h, e => by simp at e
  | a :: r, k, 0, d, h, e => by
    simp at e; subst e; exact h.1
  | a :: r, k, j + 1, d, h, e => by
    have := AllS.get (k := k + 1) (j := j) h.2 (by simpa using e)
    have e2 : k + (j + 1) = k + 1 + j := by omega
    rw [e2]; exact this
/-- the head's data -/
def DD.fn (d : DD) : He.DefD := ⟨(d.x, none), d.x, d.x, defArgs d.st, defBody d.st, defScope d.st, [], []⟩
def fnOfD (dd : List DD) : List He.DefD := dd.map DD.fn
def nmC (cls : List Str) (c : Nat) : Str := cls[c]?.getD Str.empty
def faOfD (dd : List DD) (fre : List Str) (cst : List (Str × Cst)) (cls : List Str) (exm : List (Nat × Nat × Bool)) : List He.Fa :=
  dd.map (fun d => .glo d.x) ++ fre.map .free ++ cst.map (fun p => p.2.fa p.1) ++ cls.map .glo ++ cls.map .exc ++ exm.map fun q => .exm (nmC cls q.1) (nmC cls q.2.1) q.2.2
theorem fact_mem {fa : List He.Fa} {fn : List He.DefD} {K : PySem.W.Frag} (c : He.SaysD fa fn K) {f : He.Fa} (h : f ∈ fa) : f.ok K = true := by
  obtain ⟨i, hi⟩ := List.mem_iff_getElem?.mp h
  exact c.fact i hi
/-! what a class of exceptions wants -/
def isNamed (x : Str) : List Str → Bool := fun l => l.any fun y => decide (y = x)
def exC (K : PySem.W.Frag) (D : Addr) : Bool :=
  decide (PySem.W.findIn K (.ref D) "__getattribute__" = some (some (.builtin "BaseException.__getattribute__"))) && (decide (PySem.W.findIn K (.ref D) "__getattr__" = some none) && (decide (PySem.W.subIn K (.ref D) (.type "BaseException") = some true) && (PySem.W.hasDictIn K D &&
    (decide (PySem.W.findIn K (.ref D) "__class__" = some (some (.builtin "object.__class__"))) && (decide (PySem.W.specialIn K (.builtin "object.__class__") "__get__" = some (some (.builtin "getset_descriptor.__get__"))) && (decide (PySem.W.takesIn K (.builtin "object.__class__") = some true) &&
      decide (PySem.W.mroIn K D (.type "object") = some true)))))))
theorem exC_ok {K : PySem.W.Frag} {D : Addr} (h : exC K D = true) : L2.ExcC K D := by
  unfold exC at h
  simp only [Bool.and_eq_true, decide_eq_true_eq] at h
  obtain ⟨h1, h2, h3, h4, h5, h6, h7, h8⟩ := h
  exact ⟨h1, h2, h3, h4, h5, h6, h7, h8⟩
/-- a class by its name, as a value -/
def nmV (K : PySem.W.Frag) (x : Str) : Value := if x = VEr then .type "ValueError" else .ref (He.ga K x)
def isxB (cls : List Str) (ht : Hot) (K : PySem.W.Frag) : Bool := ht.isx.all fun q => exC K (He.ga K (nmC cls q.2.1)) && decide (PySem.W.kitOne K (.ref (He.ga K (nmC cls q.2.1))) (nmV K q.1) = some q.2.2)
section
variable {dd : List DD} {fre : List Str} {cst : List (Str × Cst)} {cls : List Str} {exm : List (Nat × Nat × Bool)} {ht : Hot} {T : Nat → Option FD} {K : PySem.W.Frag} {mg : Str → Option Value} {h : Heap}
def cvOf (K : PySem.W.Frag) (cls : List Str) (c : Nat) : Value := .ref (He.ga K (nmC cls c))
theorem facts_ok (X : K.In h) (G : h.Ns mainGlobals mg) (c : He.SaysD (faOfD dd fre cst cls exm) (fnOfD dd) K) (e : isxB cls ht K = true) : Facts (glOf dd fre cst cls exm ht) (cvOf K cls) K mg := by
  refine ⟨fun x hx => ?_, fun x k hx => ?_, fun x i hx => ?_, fun a k b hx => ?_, fun x i b hx => ?_⟩
  · obtain ⟨y, hy, e⟩ := List.any_eq_true.mp hx
    have e := of_decide_eq_true e
    subst e
    exact He.free_ok X G (fact_mem c (by simp [faOfD, hy]))
  · obtain ⟨z, hz, e⟩ := lkC_get hx
    subst e
    cases z with
    | int i =>
      obtain ⟨t, ht⟩ := He.int_ok X G (x := x) (i := i) (fact_mem c (by simp only [faOfD, List.mem_append]; exact .inl (.inl (.inl (.inr (List.mem_map.mpr ⟨_, hz, rfl⟩))))))
      exact ⟨.int i, _, ht, ⟨t, rfl⟩, fun H => .int i⟩
    | str i =>
      obtain ⟨t, ht⟩ := He.str_ok X G (x := x) (z := i) (fact_mem c (by simp only [faOfD, List.mem_append]; exact .inl (.inl (.inl (.inr (List.mem_map.mpr ⟨_, hz, rfl⟩))))))
      exact ⟨.str i, _, ht, ⟨t, rfl⟩, fun H => .str i⟩
  · obtain ⟨j, e, hj⟩ := ixS_get hx
    rw [Nat.zero_add] at e
    subst e
    have hm := List.mem_of_getElem? hj
    have h1 := He.glo_ok X G (x := x) (fact_mem c (by simp [faOfD, hm]))
    obtain ⟨a1, a2, a3, a4⟩ := He.exc_ok (x := x) (K := K) (fact_mem c (by simp [faOfD, hm]))
    refine ⟨_, h1, ?_, a1, a2, a3, a4⟩
    unfold cvOf nmC
    rw [hj]; rfl
  · exact He.exm_ok (K := K) (fact_mem c (by simp only [faOfD, List.mem_append]; exact .inr (List.mem_map.mpr ⟨_, lkE_get hx, rfl⟩)))
  · have hx : (if i < cls.length then (if x = VEr then (if (fre.any fun y => decide (y = VEr)) = true then lkI x i ht.isx else none) else if (cls.any fun y => decide (y = x)) = true then lkI x i ht.isx else none) else none) = some b := hx
    have fit : lkI x i ht.isx = some b → exC K (He.ga K (nmC cls i)) = true ∧ PySem.W.kitOne K (.ref (He.ga K (nmC cls i))) (nmV K x) = some b := fun z => by
      have q := List.all_eq_true.mp e _ (lkI_get z)
      simp only [Bool.and_eq_true, decide_eq_true_eq] at q
      exact q
    split at hx
    · split at hx
      · rename_i hv
        split at hx
        · rename_i hf
          obtain ⟨f1, f2⟩ := fit hx
          obtain ⟨y, hy, ey⟩ := List.any_eq_true.mp hf
          have ey := of_decide_eq_true ey
          subst ey
          unfold nmV at f2
          rw [if_pos hv] at f2
          refine ⟨_, .ty "ValueError", .type "ValueError", rfl, exC_ok f1, f2, rfl, fun u hu => hu, .inr ⟨?_, ?_⟩⟩
          · rw [hv]; exact He.free_ok X G (fact_mem c (by simp [faOfD, hy]))
          · rw [hv]; decide +kernel
        · cases hx
      · rename_i hv
        split at hx
        · rename_i hf
          obtain ⟨f1, f2⟩ := fit hx
          obtain ⟨y, hy, ey⟩ := List.any_eq_true.mp hf
          have ey := of_decide_eq_true ey
          subst ey
          unfold nmV at f2
          rw [if_neg hv] at f2
          exact ⟨_, .ref (He.ga K y), .ref (He.ga K y), rfl, exC_ok f1, f2, rfl, fun u hu => hu, .inl (He.glo_ok X G (x := y) (fact_mem c (by simp [faOfD, hy])))⟩
        · cases hx
    · cases hx
theorem defs_ok (X : K.In h) (G : h.Ns mainGlobals mg) (c : He.SaysD (faOfD dd fre cst cls exm) (fnOfD dd) K) (A : AllS (glOf dd fre cst cls exm ht) T dd 0) :
    ∀ y i, (glOf dd fre cst cls exm ht).fn y = some i → ∃ (a : Addr) (fd : FuncData) (qual : Str) (params : Arguments) (body : List Stmt) (sc : Scope) (N ps : List Str), mg y = some (.ref a) ∧ FunD K y qual params body sc [] [] a fd ∧ Binds K fd ps [] ∧ DefOk (glOf dd fre cst cls exm ht) T i N ps body sc := by
  intro y i hy
  obtain ⟨j, d, e, hj, hx⟩ := ixOf_get hy
  rw [Nat.zero_add] at e
  subst e hx
  have s := A.get hj
  rw [Nat.zero_add] at s
  have hm := List.mem_of_getElem? hj
  obtain ⟨fd, F⟩ := c.def_ i (d := d.fn) (by unfold fnOfD; rw [List.getElem?_map, hj]; rfl)
  exact ⟨_, fd, _, _, _, _, d.N, d.ps, He.glo_ok X G (x := d.x) (fact_mem c (by simp only [faOfD, List.mem_append]; exact .inl (.inl (.inl (.inl (.inl (List.mem_map.mpr ⟨d, hm, rfl⟩))))))), F, FunD.bindsN F s.b, s.ok⟩
/-- what a run of the law's def in the small language gives -/
theorem law_sp {n f : Nat} {a : Addr} {ns : List Int} {H : Hp} {S' : Sto} {CV : Nat → Value} (hO : Only H) (hS : SqL K H a (ns.map V.int))
    (hr : callE T n f [.p (.list (ns.map PyData.int))] [] = .ok (.p (.bool true)) S') : @spE xc0 K CV (callE T n) f [.ref a] H (fun v _ => v = .bl true) fun _ _ _ => False := by
  letI : Xc := xc0
  have fr : FrzL K H a (ns.map V.int) := by
    rcases hS with h | h
    · rcases hO a with e | ⟨o, xs, e⟩
      · rcases h with h | ⟨o, h⟩ <;> (rw [e] at h; cases h)
      · rcases h with h | ⟨o', h⟩
        · rw [e] at h; cases h
        · exact .inl ⟨_, h⟩
    · exact .inr h
  have ri : ∀ l : List Int, RelPs K H (l.map PyData.int) (l.map V.int) := by
    intro l
    induction l with
    | nil => exact .nil
    | cons i l ih => exact .cons (.int i) ih
  refine ⟨fun _ => 0, [], [.p (.list (ns.map PyData.int))], ⟨fun i c hc => by simp at hc, fun i j hi hj _ => absurd hi (Nat.not_lt_zero _)⟩, .cons (.p (.lst fr (ri ns))) .nil, ?_⟩
  rw [hr]
  intro ρ' H' x e s' r
  cases r with | p r =>
  cases r
  rfl
end
/-- a law's end, what is let out told world by world -/
theorem walk_w {l : PySem.W.OpenLaw} {n k : Nat} {q : Program} {loose : List Str} {XP : (Str → Option Value) → Heap → Prop} {YP : World → Heap → Prop} {d : DefRec} {x : Str}
    (hn : l.most = some n) (hn2 : n ≤ sizeLine) (hdf : d.params.defaults = []) (hr : Room k callerA)
    (F : ∀ (w : World) (mg : Str → Option Value) (fa : Addr) (h : Heap), YP w h → h.Ns mainGlobals mg → mg d.name = some (.ref fa) →
      ∃ (K : PySem.W.Frag) (fd : FuncData) (sp : Sp), K.In h ∧ (∀ (s : Shared) (u : Value), BindsTo s fd ⟨[u], []⟩ [(x, u)]) ∧
        (∀ (H : Hp) (a : Addr) (ns : List Int), ns.length ≤ n → Only H → SqL K H a (ns.map V.int) → sp [.ref a] H (fun v _ => v = .bl true) fun _ _ _ => False) ∧
        ∀ base : Heap, K.In base → base.Ns mainGlobals mg → FnOk l.prog w K mg base (L2N.CX l.prog w) k fa fd [x] sp) :
    PySem.W.WalkO q loose XP YP l.row.toRowW d [] (fun f vs => PySem.call f vs) := by
  refine Att.attach_call hn hdf fun w s₀ s₁ mg _ fa _ _ _ _ _ _ _ G Y _ _ _ hmg ho hi hl hg => ?_
  obtain ⟨K, fd, sp, KX, hb, hsp, hF⟩ := F w mg fa _ Y G.T.g hmg
  refine law_call KX G.T.g G.T.b G.T.builtins G.T.nolimit hg ho hi (Nat.le_trans hl hn2) hr hF hb (fun H o S => hsp H _ _ hl o S) fun H e s' c => ?_
  obtain ⟨_, _, _, _, _, _, _, _, _, _, _, _, z⟩ := c
  exact z
end Kp

set_option Elab.async false
set_option linter.all false
set_option maxRecDepth 100000
set_option maxHeartbeats 8000000
set_option autoImplicit false
/-! L1: running the small language by rewriting. -/
namespace Kp
open PySem PySem.Spec PyProof.Rows L2
instance (priority := low) xcD : Xc := xc0
theorem map_inj {a b : List Char} (h : a.map Char.toNat = b.map Char.toNat) : a = b := by
  induction a generalizing b with
  | nil => cases b with
    | nil => rfl
    | cons _ _ => cases h
  | cons x a ih =>
    cases b with
    | nil => cases h
    | cons y b =>
      simp only [List.map_cons, List.cons.injEq] at h
      rw [ih h.2]
      have e : x = y := Char.ext (UInt32.toNat_inj.mp h.1)
      rw [e]
@[simp] theorem ofS_inj {a b : String} : (Str.ofString a = Str.ofString b) = (a = b) := by
  apply propext
  refine ⟨fun h => ?_, fun h => by rw [h]⟩
  rw [Str.ofString_eq_toList, Str.ofString_eq_toList] at h
  have h2 := congrArg (fun q : Str => q.cps.toList) h
  exact String.toList_inj.mp (map_inj h2)
/-! results -/
section
variable {α β : Type} {f : α → Sto → R β} {g : α → Sto → RS} {a : α} {S : Sto} {c : Nat} {en : En}
@[simp] theorem bind_ok : (R.ok a S).bind f = f a S := id rfl
@[simp] theorem bind_ex : (R.ex c S : R α).bind f = .ex c S := id rfl
@[simp] theorem bind_no : (R.no : R α).bind f = .no := id rfl
@[simp] theorem st_ok : (R.ok a S).st en g = g a S := id rfl
@[simp] theorem st_ex : (R.ex c S : R α).st en g = .ex c en S := id rfl
@[simp] theorem st_no : (R.no : R α).st en g = .no := id rfl
end
def oV (o : Option (Option PV)) (S : Sto) : R PV := match o with
  | some (some x) => .ok x S
  | _ => .no
def oP (o : Option P) (S : Sto) : R PV := match o with
  | some x => .ok (.p x) S
  | none => .no
def oW (o : Option PV) (S : Sto) : R PV := match o with
  | some x => .ok x S
  | none => .no
def oL (o : Option (List P)) (S : Sto) : R PV := match o with
  | some x => newL x S
  | none => .no
def RS.seq (r : RS) (f : En → Sto → RS) : RS := match r with
  | .nx en S => f en S
  | q => q
section
variable {x : PV} {p : P} {xs : List P} {S : Sto} {en : En} {f : En → Sto → RS} {v : PV} {c : Nat}
@[simp] theorem oV_s : oV (some (some x)) S = .ok x S := id rfl
@[simp] theorem oP_s : oP (some p) S = .ok (.p p) S := id rfl
@[simp] theorem oW_s : oW (some x) S = .ok x S := id rfl
@[simp] theorem oL_s : oL (some xs) S = newL xs S := id rfl
@[simp] theorem seq_nx : (RS.nx en S).seq f = f en S := id rfl
@[simp] theorem seq_rt : (RS.rt v S).seq f = .rt v S := id rfl
@[simp] theorem seq_ct : (RS.ct en S).seq f = .ct en S := id rfl
@[simp] theorem seq_ex : (RS.ex c en S).seq f = .ex c en S := id rfl
@[simp] theorem seq_no : (RS.no).seq f = .no := id rfl
end
/-! continuations, by names -/
section
variable (cl : Cl) (en : En)
def kBin (o : Bop) (b : Ex) (x : PV) (S : Sto) : R PV := (ev cl b en S).bind (binV o x)
def kBin' (o : Bop) (b : Ex) (x : PV) (S : Sto) : R Bool := ((ev cl b en S).bind (binV o x)).bind truV
def kBl (b : Bool) (S : Sto) : R PV := .ok (.p (.bool b)) S
def kCmp2 (o : Cop) (x y : PV) (S : Sto) : R PV := (cmpV o x y S).bind kBl
def kCmp (o : Cop) (b : Ex) (x : PV) (S : Sto) : R PV := (ev cl b en S).bind (kCmp2 o x)
def kCmpT (o : Cop) (b : Ex) (x : PV) (S : Sto) : R Bool := (ev cl b en S).bind (cmpV o x)
def kNeg (x : PV) (S : Sto) : R PV := match x with
  | .p (.int i) => okP (.int (-i)) S
  | _ => .no
def kAnd (b : Ex) (x : PV) (S : Sto) : R PV := match x with
  | .p (.bool c) => if c = true then ev cl b en S else okP (.bool false) S
  | _ => .no
def kOr (b : Ex) (x : PV) (S : Sto) : R PV := match x with
  | .p (.bool c) => if c = true then okP (.bool true) S else ev cl b en S
  | _ => .no
def kNot' (c : Bool) (S : Sto) : R Bool := .ok (!c) S
def kNotV (c : Bool) (S : Sto) : R PV := .ok (.p (.bool !c)) S
def kNot (x : PV) (S : Sto) : R PV := (truV x S).bind kNotV
def kIfe (a b : Ex) (c : Bool) (S : Sto) : R PV := if c = true then ev cl a en S else ev cl b en S
def kLst (vs : List PV) (S : Sto) : R PV := oL (allP vs) S
def kIx (i : Ex) (x : PV) (S : Sto) : R PV := (ev cl i en S).bind (ixV x)
def kIxT (i : Ex) (x : PV) (S : Sto) : R Bool := ((ev cl i en S).bind (ixV x)).bind truV
def kSl2 (hi : Oe) (x : PV) (l : Option Int) (S : Sto) : R PV := (evO cl hi en S).bind (slV x l)
def kSl (lo hi : Oe) (x : PV) (S : Sto) : R PV := (evO cl lo en S).bind (kSl2 cl en hi x)
def kMth (m : Mt) (es : Exs) (x : PV) (S : Sto) : R PV := if mtTy m x S = true then (evs cl es en S).bind (mtV m x) else .no
def kIsx (ys ns : List Nat) (x : PV) (S : Sto) : R PV := (isxV ys ns x S).bind kBl
def kIsi (t : Ty) (x : PV) (S : Sto) : R PV := (isiV t x S).bind kBl
def kEvs2 (x : PV) (xs : List PV) (S : Sto) : R (List PV) := .ok (x :: xs) S
def kEvs (es : Exs) (x : PV) (S : Sto) : R (List PV) := (evs cl es en S).bind (kEvs2 x)
def kO (x : PV) (S : Sto) : R (Option Int) := match x with
  | .p (.int i) => .ok (some i) S
  | _ => .no
def kAndT (b : Ex) (c : Bool) (S : Sto) : R Bool := if c = true then evT cl b en S else .ok false S
def kOrT (b : Ex) (c : Bool) (S : Sto) : R Bool := if c = true then .ok true S else evT cl b en S
def kR1 (x : PV) (S : Sto) : R Its' := match x with
  | .p (.int i) => rngI 0 i S
  | _ => .no
def kR2b (x y : PV) (S : Sto) : R Its' := match x, y with
  | .p (.int i), .p (.int j) => rngI i j S
  | _, _ => .no
def kR2 (b : Ex) (x : PV) (S : Sto) : R Its' := (ev cl b en S).bind (kR2b x)
def kZip (b : Ex) (x : PV) (S : Sto) : R Its' := (ev cl b en S).bind (zipI x)
def kRev (q : Its') (S : Sto) : R Its' := .ok (q.1.reverse, []) S
def kCmpD (d : Nat) (_ : Unit) (S : Sto) : R PV := .ok (.loc d) S
def kComp (i : Nat) (tst : Oe) (e : Ex) (q : Its') (S : Sto) : R PV := (compL (ev cl e) (evC cl tst) i q.2 S.length q.1 en (S ++ [.lst []])).bind (kCmpD S.length)
def kDct2 (S0 : Sto) (c : Option Cell) (k : Option (List (Key × P))) (S' : Sto) : R PV := match c, k with
  | some (.dct []), some kvs => .ok (.loc S0.length) (S'.set S0.length (.dct kvs))
  | _, _ => .no
def kDct (S0 : Sto) (ks : List Str) (vs : List PV) (S' : Sto) : R PV := kDct2 S0 (S'[S0.length]?) (dctV ks vs []) S'
def kAsg2 (o : Option En) (S : Sto) : RS := match o with
  | some en => .nx en S
  | none => .no
def kAsg (t : Tg) (x : PV) (S : Sto) : RS := kAsg2 (tgV t x en) S
def kNx {α : Type} (_ : α) (S : Sto) : RS := .nx en S
def kSet3 (v o i : PV) (S : Sto) : RS := (setV o i v S).st en (kNx en)
def kSet2 (i : Ex) (v o : PV) (S : Sto) : RS := (ev cl i en S).st en (kSet3 en v o)
def kSet (o i : Ex) (v : PV) (S : Sto) : RS := (ev cl o en S).st en (kSet2 cl en i v)
def kRt (x : PV) (S : Sto) : RS := .rt x S
def kIf (a b : Sms) (c : Bool) (S : Sto) : RS := if c = true then exss cl a en S else exss cl b en S
def kFor (t : Tg) (b : Sms) (q : Its') (S : Sto) : RS := forL t q.2 (exss cl b) q.1 en S
end
section
variable {cl : Cl} {en : En} {S : Sto} {a b e i t : Ex} {es : Exs} {lo hi tst : Oe} {x y : PV} {f n : Nat} {j : Int} {p : P}
@[simp] theorem ev_v : ev cl (.v n) en S = oV en[n]? S := by simp only [ev]; rfl
@[simp] theorem ev_c : ev cl (.c p) en S = .ok (.p p) S := by simp only [ev]
@[simp] theorem ev_bin {o : Bop} : ev cl (.bin o a b) en S = (ev cl a en S).bind (kBin cl en o b) := by simp only [ev]; rfl
@[simp] theorem kBin_ {o : Bop} : kBin cl en o b x S = (ev cl b en S).bind (binV o x) := id rfl
@[simp] theorem ev_cmp {o : Cop} : ev cl (.cmp o a b) en S = (ev cl a en S).bind (kCmp cl en o b) := by simp only [ev]; rfl
@[simp] theorem kCmp_ {o : Cop} : kCmp cl en o b x S = (ev cl b en S).bind (kCmp2 o x) := id rfl
@[simp] theorem kCmp2_ {o : Cop} : kCmp2 o x y S = (cmpV o x y S).bind kBl := id rfl
@[simp] theorem kBl_ {b : Bool} : kBl b S = .ok (.p (.bool b)) S := id rfl
@[simp] theorem ev_neg : ev cl (.neg a) en S = (ev cl a en S).bind kNeg := by simp only [ev]; rfl
@[simp] theorem kNeg_ : kNeg (.p (.int j)) S = .ok (.p (.int (-j))) S := id rfl
@[simp] theorem ev_and : ev cl (.and' a b) en S = (ev cl a en S).bind (kAnd cl en b) := by simp only [ev]; rfl
@[simp] theorem kAnd_t : kAnd cl en b (.p (.bool true)) S = ev cl b en S := id rfl
@[simp] theorem kAnd_f : kAnd cl en b (.p (.bool false)) S = .ok (.p (.bool false)) S := id rfl
@[simp] theorem ev_or : ev cl (.or' a b) en S = (ev cl a en S).bind (kOr cl en b) := by simp only [ev]; rfl
@[simp] theorem kOr_t : kOr cl en b (.p (.bool true)) S = .ok (.p (.bool true)) S := id rfl
@[simp] theorem kOr_f : kOr cl en b (.p (.bool false)) S = ev cl b en S := id rfl
@[simp] theorem ev_not : ev cl (.not' a) en S = (ev cl a en S).bind kNot := by simp only [ev]; rfl
@[simp] theorem kNot_ : kNot x S = (truV x S).bind kNotV := id rfl
@[simp] theorem kNotV_ {c : Bool} : kNotV c S = .ok (.p (.bool !c)) S := id rfl
@[simp] theorem ev_ife : ev cl (.ife t a b) en S = (evT cl t en S).bind (kIfe cl en a b) := by simp only [ev]; rfl
@[simp] theorem kIfe_t : kIfe cl en a b true S = ev cl a en S := id rfl
@[simp] theorem kIfe_f : kIfe cl en a b false S = ev cl b en S := id rfl
@[simp] theorem ev_tup : ev cl (.tup es) en S = (evs cl es en S).bind tupV := by simp only [ev]
@[simp] theorem ev_lst : ev cl (.lst es) en S = (evs cl es en S).bind kLst := by simp only [ev]; rfl
@[simp] theorem kLst_ {vs : List PV} : kLst vs S = oL (allP vs) S := id rfl
@[simp] theorem ev_dct {ks : List Str} : ev cl (.dct ks es) en S = (evs cl es en (S ++ [.dct []])).bind (kDct S ks) := by simp only [ev]; rfl
@[simp] theorem kDct_ {S' : Sto} {ks : List Str} {vs : List PV} : kDct S ks vs S' = kDct2 S (S'[S.length]?) (dctV ks vs []) S' := id rfl
@[simp] theorem kDct2_ {S' : Sto} {kvs : List (Key × P)} : kDct2 S (some (.dct [])) (some kvs) S' = .ok (.loc S.length) (S'.set S.length (.dct kvs)) := id rfl
@[simp] theorem ev_ix : ev cl (.ix a i) en S = (ev cl a en S).bind (kIx cl en i) := by simp only [ev]; rfl
@[simp] theorem kIx_ : kIx cl en i x S = (ev cl i en S).bind (ixV x) := id rfl
@[simp] theorem ev_sl : ev cl (.sl a lo hi) en S = (ev cl a en S).bind (kSl cl en lo hi) := by simp only [ev]; rfl
@[simp] theorem kSl_ : kSl cl en lo hi x S = (evO cl lo en S).bind (kSl2 cl en hi x) := id rfl
@[simp] theorem kSl2_ {l : Option Int} : kSl2 cl en hi x l S = (evO cl hi en S).bind (slV x l) := id rfl
@[simp] theorem ev_rev : ev cl (.rev a) en S = (ev cl a en S).bind revV := by simp only [ev]
@[simp] theorem ev_call : ev cl (.call f es) en S = (evs cl es en S).bind (cl f) := by simp only [ev]
@[simp] theorem ev_bi {b : Bi} : ev cl (.bi b es) en S = (evs cl es en S).bind (biV b) := by simp only [ev]
@[simp] theorem ev_mth {m : Mt} : ev cl (.mth m a es) en S = (ev cl a en S).bind (kMth cl en m es) := by simp only [ev]; rfl
theorem kMth_ {m : Mt} (h : mtTy m x S = true) : kMth cl en m es x S = (evs cl es en S).bind (mtV m x) := if_pos h
@[simp] theorem ev_isi {t : Ty} : ev cl (.isi a t) en S = (ev cl a en S).bind (kIsi t) := by simp only [ev]; rfl
@[simp] theorem ev_isx {ys ns : List Nat} : ev cl (.isx a ys ns) en S = (ev cl a en S).bind (kIsx ys ns) := by simp only [ev]; rfl
@[simp] theorem kIsx_ {ys ns : List Nat} : kIsx ys ns x S = (isxV ys ns x S).bind kBl := id rfl
@[simp] theorem isx_y {ys ns : List Nat} {c : Nat} (q : ys.contains c = true) : isxV ys ns (.exc c) S = .ok true S := if_pos q
@[simp] theorem isx_n {ys ns : List Nat} {c : Nat} (q : ys.contains c = false) (q2 : ns.contains c = true) : isxV ys ns (.exc c) S = .ok false S := (if_neg (by rw [q]; decide)).trans (if_pos q2)
@[simp] theorem kIsi_ {t : Ty} : kIsi t x S = (isiV t x S).bind kBl := id rfl
@[simp] theorem ev_comp {it : Ix} : ev cl (.comp n it tst e) en S = (evI cl it en S).bind (kComp cl en n tst e) := by simp only [ev]; rfl
@[simp] theorem evs_nil : evs cl .nil en S = .ok [] S := by simp only [evs]
@[simp] theorem evs_cons : evs cl (.cons e es) en S = (ev cl e en S).bind (kEvs cl en es) := by simp only [evs]; rfl
@[simp] theorem kEvs_ : kEvs cl en es x S = (evs cl es en S).bind (kEvs2 x) := id rfl
@[simp] theorem kEvs2_ {xs : List PV} : kEvs2 x xs S = .ok (x :: xs) S := id rfl
@[simp] theorem evO_non : evO cl .non en S = .ok none S := by simp only [evO]
@[simp] theorem evO_one : evO cl (.one e) en S = (ev cl e en S).bind kO := by simp only [evO]; rfl
@[simp] theorem kO_ : kO (.p (.int j)) S = .ok (some j) S := id rfl
@[simp] theorem evC_non : evC cl .non en S = .ok true S := by simp only [evC]
@[simp] theorem evC_one : evC cl (.one e) en S = evT cl e en S := by simp only [evC]
@[simp] theorem evI_val : evI cl (.val e) en S = (ev cl e en S).bind valI := by simp only [evI]
@[simp] theorem evI_r1 : evI cl (.rng1 a) en S = (ev cl a en S).bind kR1 := by simp only [evI]; rfl
@[simp] theorem kR1_ : kR1 (.p (.int j)) S = rngI 0 j S := id rfl
@[simp] theorem evI_r2 : evI cl (.rng2 a b) en S = (ev cl a en S).bind (kR2 cl en b) := by
  simp only [evI]
  unfold kR2
  congr 1
  funext x S
  congr 1
  funext y S
  unfold kR2b intR
  cases x with
  | p x => cases x <;> first | rfl | (cases y with | p y => (cases y <;> rfl) | _ => rfl)
  | _ => rfl
@[simp] theorem kR2_ : kR2 cl en b x S = (ev cl b en S).bind (kR2b x) := id rfl
@[simp] theorem kR2b_ {k : Int} : kR2b (.p (.int j)) (.p (.int k)) S = rngI j k S := id rfl
@[simp] theorem evI_zip : evI cl (.zip a b) en S = (ev cl a en S).bind (kZip cl en b) := by simp only [evI]; rfl
@[simp] theorem kZip_ : kZip cl en b x S = (ev cl b en S).bind (zipI x) := id rfl
@[simp] theorem evI_rr : evI cl (.revR a) en S = (ev cl a en S).bind fun x S => (kR1 x S).bind kRev := by simp only [evI]; rfl
@[simp] theorem kRev_ {q : Its'} : kRev q S = .ok (q.1.reverse, []) S := id rfl
@[simp] theorem evI_rl : evI cl (.revL a) en S = (ev cl a en S).bind revI := by simp only [evI]
@[simp] theorem evT_cmp {o : Cop} : evT cl (.cmp o a b) en S = (ev cl a en S).bind (kCmpT cl en o b) := by simp only [evT]; rfl
@[simp] theorem kCmpT_ {o : Cop} : kCmpT cl en o b x S = (ev cl b en S).bind (cmpV o x) := id rfl
@[simp] theorem evT_and : evT cl (.and' a b) en S = (evT cl a en S).bind (kAndT cl en b) := by simp only [evT]; rfl
@[simp] theorem kAndT_t : kAndT cl en b true S = evT cl b en S := id rfl
@[simp] theorem kAndT_f : kAndT cl en b false S = .ok false S := id rfl
@[simp] theorem evT_or : evT cl (.or' a b) en S = (evT cl a en S).bind (kOrT cl en b) := by simp only [evT]; rfl
@[simp] theorem kOrT_t : kOrT cl en b true S = .ok true S := id rfl
@[simp] theorem kOrT_f : kOrT cl en b false S = evT cl b en S := id rfl
@[simp] theorem evT_not : evT cl (.not' a) en S = (evT cl a en S).bind kNot' := by simp only [evT]; rfl
@[simp] theorem kNot'_ {c : Bool} : kNot' c S = .ok (!c) S := id rfl
@[simp] theorem evT_v : evT cl (.v n) en S = (oV en[n]? S).bind truV := by
  simp only [evT]
  cases q : en[n]? with
  | none => rfl
  | some o => cases o <;> rfl
@[simp] theorem evT_c : evT cl (.c p) en S = truV (.p p) S := by simp only [evT]
@[simp] theorem evT_bin {o : Bop} : evT cl (.bin o a b) en S = (ev cl a en S).bind (kBin' cl en o b) := by
  simp only [evT]
  unfold kBin'
  congr 1
  funext x S
  cases ev cl b en S <;> rfl
@[simp] theorem kBin'_ {o : Bop} : kBin' cl en o b x S = ((ev cl b en S).bind (binV o x)).bind truV := id rfl
@[simp] theorem evT_ix : evT cl (.ix a i) en S = (ev cl a en S).bind (kIxT cl en i) := by
  simp only [evT]
  unfold kIxT
  congr 1
  funext x S
  cases ev cl i en S <;> rfl
@[simp] theorem kIxT_ : kIxT cl en i x S = ((ev cl i en S).bind (ixV x)).bind truV := id rfl
@[simp] theorem evT_call : evT cl (.call f es) en S = ((evs cl es en S).bind (cl f)).bind truV := by
  simp only [evT]
  cases evs cl es en S <;> rfl
@[simp] theorem evT_bi {b : Bi} : evT cl (.bi b es) en S = ((evs cl es en S).bind (biV b)).bind truV := by
  simp only [evT]
  cases evs cl es en S <;> rfl
@[simp] theorem evT_isx {ys ns : List Nat} : evT cl (.isx a ys ns) en S = (ev cl a en S).bind (isxV ys ns) := by
  simp only [evT]
  congr 1
  funext x S
  cases isxV ys ns x S <;> rfl
@[simp] theorem evT_isi {t : Ty} : evT cl (.isi a t) en S = (ev cl a en S).bind (isiV t) := by
  simp only [evT]
  congr 1
  funext x S
  cases isiV t x S <;> rfl
end
def kTry (cl : Cl) (h : Hs) (r : RS) : RS := match r with
  | .ex c en S => hds cl h c en S
  | q => q
def kTryA (cl : Cl) (cs ms : List Nat) (i : Nat) (h : Sms) (r : RS) : RS := match r with
  | .ex c en S => if cs.contains c = true then goneR i (exss cl h (en.set i (some (.exc c))) S) else if ms.contains c = true then .ex c en S else .no
  | q => q
section
variable {cl : Cl} {en : En} {S : Sto} {e o i : Ex} {x y v : PV} {a b r : Sms} {s : Sm} {c n : Nat}
@[simp] theorem exs_asg {t : Tg} : exs cl (.asg t e) en S = (ev cl e en S).st en (kAsg en t) := by simp only [exs]; rfl
@[simp] theorem kAsg_ {t : Tg} : kAsg en t x S = kAsg2 (tgV t x en) S := id rfl
@[simp] theorem kAsg2_ : kAsg2 (some en) S = .nx en S := id rfl
@[simp] theorem tgV_n {v : PV} : tgV (.nm n) v en = some (en.set n (some v)) := id rfl
@[simp] theorem exs_set : exs cl (.setI o i e) en S = (ev cl e en S).st en (kSet cl en o i) := by simp only [exs]; rfl
@[simp] theorem kSet_ : kSet cl en o i v S = (ev cl o en S).st en (kSet2 cl en i v) := id rfl
@[simp] theorem kSet2_ : kSet2 cl en i v x S = (ev cl i en S).st en (kSet3 en v x) := id rfl
@[simp] theorem kSet3_ : kSet3 en v x y S = (setV x y v S).st en (kNx en) := id rfl
@[simp] theorem kNx_ {α : Type} {u : α} : kNx en u S = .nx en S := id rfl
@[simp] theorem exs_ex : exs cl (.ex e) en S = (ev cl e en S).st en (kNx en) := by simp only [exs]; rfl
@[simp] theorem exs_ret : exs cl (.ret e) en S = (ev cl e en S).st en kRt := by simp only [exs]; rfl
@[simp] theorem kRt_ : kRt x S = .rt x S := id rfl
@[simp] theorem exs_retN : exs cl .retN en S = .rt (.p .none) S := by simp only [exs]
@[simp] theorem exs_ift {t : Ex} : exs cl (.ift t a b) en S = (evT cl t en S).st en (kIf cl en a b) := by simp only [exs]; rfl
@[simp] theorem kIf_t : kIf cl en a b true S = exss cl a en S := id rfl
@[simp] theorem kIf_f : kIf cl en a b false S = exss cl b en S := id rfl
@[simp] theorem exs_for {t : Tg} {it : Ix} : exs cl (.for' t it b) en S = (evI cl it en S).st en (kFor cl en t b) := by simp only [exs]; rfl
@[simp] theorem kFor_ {t : Tg} {q : Its'} : kFor cl en t b q S = forL t q.2 (exss cl b) q.1 en S := id rfl
@[simp] theorem exs_while {t : Ex} : exs cl (.while t b) en S = whileL (evT cl t) (exss cl b) WL en S := by simp only [exs]
@[simp] theorem exs_raise : exs cl (.raise c) en S = .ex c en S := by simp only [exs]
variable {h : Hs} {cs ms : List Nat} {k : Nat}
@[simp] theorem exs_tryM : exs cl (.tryM b h) en S = kTry cl h (exss cl b en S) := by simp only [exs]; rfl
@[simp] theorem kTry_nx : kTry cl h (.nx en S) = .nx en S := id rfl
@[simp] theorem kTry_ct : kTry cl h (.ct en S) = .ct en S := id rfl
@[simp] theorem kTry_rt : kTry cl h (.rt v S) = .rt v S := id rfl
@[simp] theorem kTry_ex : kTry cl h (.ex c en S) = hds cl h c en S := id rfl
@[simp] theorem hds_nil : hds cl .nil c en S = .ex c en S := by simp only [hds]
@[simp] theorem hds_y (q : cs.contains c = true) : hds cl (.cons cs ms b h) c en S = noEx (exss cl b en S) := by simp only [hds]; rw [if_pos q]
@[simp] theorem hds_n (q : cs.contains c = false) (q2 : ms.contains c = true) : hds cl (.cons cs ms b h) c en S = hds cl h c en S := by simp only [hds]; rw [if_neg (by rw [q]; decide), if_pos q2]
@[simp] theorem hasX_p {z : P} : hasX (.p z) = false := id rfl
@[simp] theorem hasX_l {z : Nat} : hasX (.loc z) = false := id rfl
@[simp] theorem hasX_m {z : List PV} : hasX (.mt z) = hasXs z := id rfl
@[simp] theorem hasX_x {z : Nat} : hasX (.exc z) = true := id rfl
@[simp] theorem hasXs_n : hasXs [] = false := id rfl
@[simp] theorem hasXs_c {z : List PV} : hasXs (x :: z) = (hasX x || hasXs z) := id rfl
@[simp] theorem hasXE_n : hasXE [] = false := id rfl
@[simp] theorem hasXE_o : hasXE (none :: en) = hasXE en := id rfl
@[simp] theorem hasXE_s : hasXE (some x :: en) = (hasX x || hasXE en) := id rfl
@[simp] theorem noEx_nx (q : hasXE en = false) : noEx (.nx en S) = .nx en S := if_neg (by rw [q]; decide)
@[simp] theorem noEx_rt (q : hasX v = false) : noEx (.rt v S) = .rt v S := if_neg (by rw [q]; decide)
@[simp] theorem noEx_ct (q : hasXE en = false) : noEx (.ct en S) = .ct en S := if_neg (by rw [q]; decide)
@[simp] theorem exs_tryA : exs cl (.tryA b cs ms k a) en S = kTryA cl cs ms k a (exss cl b en S) := by simp only [exs]; rfl
@[simp] theorem kTryA_nx : kTryA cl cs ms k a (.nx en S) = .nx en S := id rfl
@[simp] theorem kTryA_ct : kTryA cl cs ms k a (.ct en S) = .ct en S := id rfl
@[simp] theorem kTryA_rt : kTryA cl cs ms k a (.rt v S) = .rt v S := id rfl
@[simp] theorem kTryA_y (q : cs.contains c = true) : kTryA cl cs ms k a (.ex c en S) = goneR k (exss cl a (en.set k (some (.exc c))) S) := if_pos q
@[simp] theorem kTryA_n (q : cs.contains c = false) (q2 : ms.contains c = true) : kTryA cl cs ms k a (.ex c en S) = .ex c en S := (if_neg (by rw [q]; decide)).trans (if_pos q2)
@[simp] theorem gone_nx (q : hasXE (en.set k none) = false) : goneR k (.nx en S) = .nx (en.set k none) S := if_neg (by rw [q]; decide)
@[simp] theorem gone_ct (q : hasXE (en.set k none) = false) : goneR k (.ct en S) = .ct (en.set k none) S := if_neg (by rw [q]; decide)
@[simp] theorem gone_rt (q : hasX v = false) : goneR k (.rt v S) = .rt v S := if_neg (by rw [q]; decide)
@[simp] theorem exs_cont : exs cl .cont en S = .ct en S := by simp only [exs]
@[simp] theorem exs_pass : exs cl .pass en S = .nx en S := by simp only [exs]
@[simp] theorem exss_nil : exss cl .nil en S = .nx en S := by simp only [exss]
@[simp] theorem exss_cons : exss cl (.cons s r) en S = (exs cl s en S).seq (exss cl r) := by simp only [exss]; rfl
end
/-! operations at their forms -/
section
variable {S : Sto} {i j : Int} {a b : Str} {x : P} {xs ys : List P} {l k : Nat} {p q : Bool} {kvs : List (Key × P)}
@[simp] theorem b_add : binV .add (.p (.int i)) (.p (.int j)) S = .ok (.p (.int (i + j))) S := id rfl
@[simp] theorem b_sub : binV .sub (.p (.int i)) (.p (.int j)) S = .ok (.p (.int (i - j))) S := id rfl
@[simp] theorem b_mul (h : CMulB i j = true) : binV .mul (.p (.int i)) (.p (.int j)) S = .ok (.p (.int (i * j))) S := if_pos h
@[simp] theorem cmul_r (h : -18446744073709551616 < j ∧ j < 18446744073709551616) : CMulB i j = true := by
  unfold CMulB
  simp only [Bool.or_eq_true, Bool.and_eq_true, decide_eq_true_eq]
  exact .inr ⟨by omega, by omega⟩
@[simp] theorem cmul_l (h : -18446744073709551616 < i ∧ i < 18446744073709551616) : CMulB i j = true := by
  unfold CMulB
  simp only [Bool.or_eq_true, Bool.and_eq_true, decide_eq_true_eq]
  exact .inl ⟨by omega, by omega⟩
@[simp] theorem b_fdiv (h : 0 < j ∧ j < 1073741824) : binV .fdiv (.p (.int i)) (.p (.int j)) S = .ok (.p (.int (i / j))) S := if_pos h
@[simp] theorem b_mod (h : 0 < j) : binV .mod (.p (.int i)) (.p (.int j)) S = .ok (.p (.int (i % j))) S := if_pos h
@[simp] theorem b_str (h : a.length + b.length ≤ 1000000) : binV .add (.p (.str a)) (.p (.str b)) S = .ok (.p (.str (a ++ b))) S := if_pos h
@[simp] theorem b_tup (h : xs.length + ys.length ≤ 1000000) : binV .add (.p (.tuple xs)) (.p (.tuple ys)) S = .ok (.p (.tuple (xs ++ ys))) S := if_pos h
def addC (c d : Option Cell) (S : Sto) : R PV := match c, d with
  | some (.lst a), some (.lst b) => newL (a ++ b) S
  | _, _ => .no
@[simp] theorem b_loc : binV .add (.loc l) (.loc k) S = addC S[l]? S[k]? S := id rfl
@[simp] theorem addC_ : addC (some (.lst xs)) (some (.lst ys)) S = newL (xs ++ ys) S := id rfl
def mulC (c : Option Cell) (k : Int) (S : Sto) : R PV := match c with
  | some (.lst a) => if -(2 ^ 63) ≤ k ∧ k < 2 ^ 63 ∧ a.length * k.toNat ≤ 1000000 then newL (List.replicate k.toNat a).flatten S else .no
  | _ => .no
@[simp] theorem b_mulL : binV .mul (.loc l) (.p (.int i)) S = mulC S[l]? i S := id rfl
@[simp] theorem mulC_ (h : 0 ≤ i ∧ i ≤ 1000000 ∧ xs.length * i.toNat ≤ 1000000) : mulC (some (.lst xs)) i S = newL (List.replicate i.toNat xs).flatten S := if_pos ⟨by omega, by omega, h.2.2⟩
@[simp] theorem newL_ (h : xs.length ≤ 1000000) : newL xs S = .ok (.loc S.length) (S ++ [.lst xs]) := if_pos h
@[simp] theorem newC_ : newC xs S = .ok (.loc S.length) (S ++ [.lst xs]) := id rfl
@[simp] theorem allP_nil : allP [] = some [] := id rfl
@[simp] theorem allP_p {r : List PV} : allP (.p x :: r) = (allP r).map (x :: ·) := id rfl
def tupO (o : Option (List P)) (vs : List PV) (S : Sto) : R PV := match o with
  | some xs => .ok (.p (.tuple xs)) S
  | none => .ok (.mt vs) S
@[simp] theorem allP_l {r : List PV} : allP (.loc l :: r) = none := id rfl
@[simp] theorem tup_ {vs : List PV} (h : vs.length ≤ 1000000) : tupV vs S = tupO (allP vs) vs S := by
  unfold tupV
  rw [if_pos h]
  cases allP vs <;> rfl
@[simp] theorem tupO_s {vs : List PV} : tupO (some xs) vs S = .ok (.p (.tuple xs)) S := id rfl
@[simp] theorem tupO_n {vs : List PV} : tupO none vs S = .ok (.mt vs) S := id rfl
@[simp] theorem e_int : eqV' (.p (.int i)) (.p (.int j)) S = .ok (decide (i = j)) S := id rfl
@[simp] theorem e_str : eqV' (.p (.str a)) (.p (.str b)) S = .ok (decide (a = b)) S := id rfl
@[simp] theorem c_eq {x y : PV} : cmpV .eq x y S = eqV' x y S := id rfl
@[simp] theorem c_ne {x y : PV} : cmpV .ne x y S = (eqV' x y S).bind kNot' := id rfl
@[simp] theorem c_lt : cmpV .lt (.p (.int i)) (.p (.int j)) S = .ok (decide (i < j)) S := id rfl
@[simp] theorem c_le : cmpV .le (.p (.int i)) (.p (.int j)) S = .ok (decide (i ≤ j)) S := id rfl
@[simp] theorem c_gt : cmpV .gt (.p (.int i)) (.p (.int j)) S = .ok (decide (j < i)) S := id rfl
@[simp] theorem c_ge : cmpV .ge (.p (.int i)) (.p (.int j)) S = .ok (decide (j ≤ i)) S := id rfl
@[simp] theorem c_inn {x y : PV} : cmpV .inn x y S = inV' x y S := id rfl
@[simp] theorem c_nin {x y : PV} : cmpV .nin x y S = (inV' x y S).bind kNot' := id rfl
@[simp] theorem c_is0 : cmpV .is (.p x) (.p .none) S = .ok (nonP x) S := id rfl
@[simp] theorem c_is1 : cmpV .is (.loc l) (.p .none) S = .ok false S := id rfl
@[simp] theorem c_isn0 : cmpV .isn (.p x) (.p .none) S = .ok (!nonP x) S := id rfl
@[simp] theorem c_isn1 : cmpV .isn (.loc l) (.p .none) S = .ok true S := id rfl
@[simp] theorem c_isb : cmpV .is (.p (.bool p)) (.p (.bool q)) S = .ok (decide (p = q)) S := id rfl
@[simp] theorem nonP_n : nonP .none = true := id rfl
@[simp] theorem nonP_i : nonP (.int i) = false := id rfl
@[simp] theorem nonP_s : nonP (.str a) = false := id rfl
@[simp] theorem nonP_b : nonP (.bool p) = false := id rfl
@[simp] theorem nonP_t : nonP (.tuple xs) = false := id rfl
@[simp] theorem nonP_l : nonP (.list xs) = false := id rfl
def inT (xs : List P) (a : P) : Bool := xs.any fun y => PyData.eqv y a
@[simp] theorem in_tup (h : (flatP x && xs.all flatP) = true) : inV' (.p x) (.p (.tuple xs)) S = .ok (inT xs x) S := by
  cases x <;> first | exact if_pos h | cases h
def inC (x : P) (c : Option Cell) (S : Sto) : R Bool := match c with
  | some (.dct kvs) => (match keyP x with
    | some k => .ok (luK kvs k).isSome S
    | none => .no)
  | some (.lst xs) => if (flatP x && xs.all flatP) = true then .ok (xs.any fun y => PyData.eqv y x) S else .no
  | _ => .no
@[simp] theorem in_loc : inV' (.p x) (.loc l) S = inC x S[l]? S := by
  cases x <;> rfl
@[simp] theorem inC_l (h : (flatP x && xs.all flatP) = true) : inC x (some (.lst xs)) S = .ok (inT xs x) S := if_pos h
@[simp] theorem inC_ds : inC (.str a) (some (.dct kvs)) S = .ok (luK kvs (.inr a)).isSome S := id rfl
@[simp] theorem inC_di : inC (.int i) (some (.dct kvs)) S = .ok (luK kvs (.inl i)).isSome S := id rfl
def inS (a b : Str) : Bool := decide (a.cps.getD 0 0 ∈ b.cps.toList)
@[simp] theorem in_str (h : a.length = 1) : inV' (.p (.str a)) (.p (.str b)) S = .ok (inS a b) S := if_pos h
@[simp] theorem in_chr {c : Nat} : inV' (.p (.str ⟨#[c]⟩)) (.p (.str b)) S = .ok (inS ⟨#[c]⟩ b) S := in_str rfl
@[simp] theorem inT_nil : inT [] x = false := id rfl
@[simp] theorem inT_cons {y : P} : inT (y :: xs) x = (PyData.eqv y x || inT xs x) := id rfl
@[simp] theorem eqv_ii : PyData.eqv (.int i) (.int j) = decide (i = j) := id rfl
@[simp] theorem eqv_ss : PyData.eqv (.str a) (.str b) = decide (a = b) := by
  show (a == b) = _
  by_cases h : a = b
  · subst h; simp
  · simp [h]
@[simp] theorem flat_i : flatP (.int i) = true := id rfl
@[simp] theorem flat_s : flatP (.str a) = true := id rfl
@[simp] theorem flat_b : flatP (.bool p) = true := id rfl
@[simp] theorem flat_n : flatP .none = true := id rfl
@[simp] theorem t_b : truV (.p (.bool p)) S = .ok p S := id rfl
@[simp] theorem t_n : truV (.p .none) S = .ok false S := id rfl
@[simp] theorem t_i : truV (.p (.int i)) S = .ok (i != 0) S := id rfl
@[simp] theorem t_s (h : a.length ≤ 1000000) : truV (.p (.str a)) S = .ok (a.length != 0) S := if_pos h
@[simp] theorem t_t : truV (.p (.tuple xs)) S = .ok (!xs.isEmpty) S := id rfl
def truC (c : Option Cell) (S : Sto) : R Bool := match c with
  | some (.lst xs) => .ok (!xs.isEmpty) S
  | some (.dct xs) => .ok (!xs.isEmpty) S
  | none => .no
@[simp] theorem t_l : truV (.loc l) S = truC S[l]? S := id rfl
@[simp] theorem truC_l : truC (some (.lst xs)) S = .ok (!xs.isEmpty) S := id rfl
@[simp] theorem truC_d : truC (some (.dct kvs)) S = .ok (!kvs.isEmpty) S := id rfl
@[simp] theorem ix_tup : ixV (.p (.tuple xs)) (.p (.int i)) S = oP (ixP xs i) S := by
  show (match ixP xs i with
    | some v => okP v S
    | none => .no) = _
  cases ixP xs i <;> rfl
@[simp] theorem ix_lst : ixV (.p (.list xs)) (.p (.int i)) S = oP (ixP xs i) S := by
  show (match ixP xs i with
    | some v => okP v S
    | none => .no) = _
  cases ixP xs i <;> rfl
@[simp] theorem ix_mt {xs : List PV} : ixV (.mt xs) (.p (.int i)) S = oW (ixP xs i) S := by
  show (match ixP xs i with
    | some v => (R.ok v S : R PV)
    | none => .no) = _
  cases ixP xs i <;> rfl
def oC (o : Option Nat) (S : Sto) : R PV := match o with
  | some c => .ok (.p (.str ⟨#[c]⟩)) S
  | none => .no
@[simp] theorem oC_ {c : Nat} : oC (some c) S = .ok (.p (.str ⟨#[c]⟩)) S := id rfl
@[simp] theorem ix_str (h : a.length ≤ 1000000) : ixV (.p (.str a)) (.p (.int i)) S = oC (ixP a.cps.toList i) S := by
  refine (if_pos h).trans ?_
  cases ixP a.cps.toList i <;> rfl
def ixC (c : Option Cell) (k : P) (S : Sto) : R PV := match c with
  | some (.lst xs) => (match k with
    | .int i => oP (ixP xs i) S
    | _ => .no)
  | some (.dct kvs) => (match keyP k with
    | some k => oP (luK kvs k) S
    | none => .no)
  | none => .no
@[simp] theorem ix_loc : ixV (.loc l) (.p x) S = ixC S[l]? x S := by
  unfold ixV ixC
  dsimp only
  cases S[l]? with
  | none => rfl
  | some c => cases c with
    | lst xs => cases x with
      | int i => dsimp only; cases ixP xs i <;> rfl
      | _ => rfl
    | dct kvs =>
      dsimp only
      cases keyP x with
      | none => rfl
      | some k => dsimp only; cases luK kvs k <;> rfl
@[simp] theorem ixC_l : ixC (some (.lst xs)) (.int i) S = oP (ixP xs i) S := id rfl
@[simp] theorem ixC_di : ixC (some (.dct kvs)) (.int i) S = oP (luK kvs (.inl i)) S := id rfl
@[simp] theorem ixC_ds : ixC (some (.dct kvs)) (.str a) S = oP (luK kvs (.inr a)) S := id rfl
variable {lo hi : Option Int}
@[simp] theorem sl_t : slV (.p (.tuple xs)) lo hi S = .ok (.p (.tuple (cutP xs lo hi))) S := id rfl
@[simp] theorem sl_l : slV (.p (.list xs)) lo hi S = newC (cutP xs lo hi) S := id rfl
def cutS (s : Str) (lo hi : Option Int) : Str := ⟨(cutP s.cps.toList lo hi).toArray⟩
def revS (s : Str) : Str := ⟨s.cps.toList.reverse.toArray⟩
@[simp] theorem cutS_len {s : Str} {lo hi : Option Int} {n : Nat} (h : s.length ≤ n) : (cutS s lo hi).length ≤ n := by
  unfold cutS cutP
  show (List.toArray _).size ≤ n
  rw [List.size_toArray, List.length_take, List.length_drop]
  have : s.cps.toList.length = s.length := by simp [Str.length]
  omega
@[simp] theorem revS_len {s : Str} : (revS s).length = s.length := by
  unfold revS
  show (List.toArray _).size = s.cps.size
  simp
@[simp] theorem app_len {s t : Str} : (s ++ t).length = s.length + t.length := by
  show (s.cps ++ t.cps).size = _
  rw [Array.size_append]; rfl
@[simp] theorem sl_s (h : a.length ≤ 1000000) : slV (.p (.str a)) lo hi S = .ok (.p (.str (cutS a lo hi))) S := if_pos h
def slC (c : Option Cell) (lo hi : Option Int) (S : Sto) : R PV := match c with
  | some (.lst xs) => newC (cutP xs lo hi) S
  | _ => .no
@[simp] theorem sl_loc : slV (.loc l) lo hi S = slC S[l]? lo hi S := id rfl
@[simp] theorem slC_ : slC (some (.lst xs)) lo hi S = newC (cutP xs lo hi) S := id rfl
@[simp] theorem rev_s (h : a.length ≤ 1000000) : revV (.p (.str a)) S = .ok (.p (.str (revS a))) S := if_pos h
def revC (c : Option Cell) (S : Sto) : R PV := match c with
  | some (.lst xs) => newC xs.reverse S
  | _ => .no
@[simp] theorem rev_loc : revV (.loc l) S = revC S[l]? S := id rfl
@[simp] theorem revC_ : revC (some (.lst xs)) S = newC xs.reverse S := id rfl
def lenC (c : Option Cell) (S : Sto) : R PV := match c with
  | some (.lst xs) => okP (.int xs.length) S
  | some (.dct xs) => okP (.int xs.length) S
  | none => .no
@[simp] theorem len_loc : biV .len [.loc l] S = lenC S[l]? S := id rfl
@[simp] theorem lenC_l : lenC (some (.lst xs)) S = .ok (.p (.int xs.length)) S := id rfl
@[simp] theorem lenC_d : lenC (some (.dct kvs)) S = .ok (.p (.int kvs.length)) S := id rfl
@[simp] theorem len_t : biV .len [.p (.tuple xs)] S = .ok (.p (.int xs.length)) S := id rfl
@[simp] theorem len_l : biV .len [.p (.list xs)] S = .ok (.p (.int xs.length)) S := id rfl
@[simp] theorem len_m {xs : List PV} : biV .len [.mt xs] S = .ok (.p (.int xs.length)) S := id rfl
@[simp] theorem len_s (h : a.length ≤ 1000000) : biV .len [.p (.str a)] S = .ok (.p (.int a.length)) S := if_pos h
@[simp] theorem tuple_t : biV .tup [.p (.tuple xs)] S = .ok (.p (.tuple xs)) S := id rfl
def tupC (c : Option Cell) (S : Sto) : R PV := match c with
  | some (.lst xs) => okP (.tuple xs) S
  | _ => .no
@[simp] theorem tuple_loc : biV .tup [.loc l] S = tupC S[l]? S := id rfl
@[simp] theorem tupC_ : tupC (some (.lst xs)) S = .ok (.p (.tuple xs)) S := id rfl
@[simp] theorem list_t : biV .lst [.p (.tuple xs)] S = newC xs S := id rfl
@[simp] theorem list_l : biV .lst [.p (.list xs)] S = newC xs S := id rfl
def lstC (c : Option Cell) (S : Sto) : R PV := match c with
  | some (.lst xs) => newC xs S
  | some (.dct kvs) => newC (kvs.map fun kv => pKey kv.1) S
  | none => .no
@[simp] theorem list_loc : biV .lst [.loc l] S = lstC S[l]? S := id rfl
@[simp] theorem lstC_l : lstC (some (.lst xs)) S = newC xs S := id rfl
@[simp] theorem lstC_d : lstC (some (.dct kvs)) S = newC (kvs.map fun kv => pKey kv.1) S := id rfl
def dicC (c : Option Cell) (S : Sto) : R PV := match c with
  | some (.dct kvs) => .ok (.loc S.length) (S ++ [.dct kvs])
  | _ => .no
@[simp] theorem dict_loc : biV .dict [.loc l] S = dicC S[l]? S := id rfl
@[simp] theorem dicC_ : dicC (some (.dct kvs)) S = .ok (.loc S.length) (S ++ [.dct kvs]) := id rfl
@[simp] theorem int_i : biV .int [.p (.int i)] S = .ok (.p (.int i)) S := id rfl
@[simp] theorem int_b : biV .int [.p (.bool p)] S = .ok (.p (.int (if p then 1 else 0))) S := id rfl
@[simp] theorem str_i (h : i.natAbs.log2 < 1920) : biV .str [.p (.int i)] S = .ok (.p (.str (toString i))) S := if_pos h
@[simp] theorem intsP_nil : intsP [] = some [] := id rfl
@[simp] theorem intsP_c : intsP (.int i :: xs) = (intsP xs).map (i :: ·) := id rfl
theorem intsP_map : ∀ {ns : List Int}, intsP (ns.map PyData.int) = some ns
  | [] => rfl
  | n :: ns => by show (intsP (ns.map PyData.int)).map (n :: ·) = _; rw [intsP_map]; rfl
def srtC (c : Option Cell) (S : Sto) : R PV := match c with
  | some (.lst xs) => (match intsP xs with
    | some ns => newC ((sortI ns).map .int) S
    | _ => .no)
  | _ => .no
@[simp] theorem sorted_loc : biV .sorted [.loc l] S = srtC S[l]? S := id rfl
@[simp] theorem srtC_ {ns : List Int} : srtC (some (.lst (ns.map .int))) S = newC ((sortI ns).map .int) S := by
  unfold srtC
  dsimp only
  rw [intsP_map]
@[simp] theorem max2_ : biV .max2 [.p (.int i), .p (.int j)] S = .ok (.p (.int (if j > i then j else i))) S := id rfl
@[simp] theorem min2_ : biV .min2 [.p (.int i), .p (.int j)] S = .ok (.p (.int (if j < i then j else i))) S := id rfl
def mxC (c : Option Cell) (d : P) (S : Sto) : R PV := match c with
  | some (.lst xs) => (match intsP xs with
    | some (n :: ns) => okP (.int (maxI n ns)) S
    | some [] => okP d S
    | _ => .no)
  | _ => .no
@[simp] theorem maxd_ : biV .maxd [.loc l, .p x] S = mxC S[l]? x S := id rfl
def maxL (d : Int) : List Int → Int
  | [] => d
  | n :: ns => maxI n ns
@[simp] theorem mxC_ {ns : List Int} {d : Int} : mxC (some (.lst (ns.map .int))) (.int d) S = .ok (.p (.int (maxL d ns))) S := by
  unfold mxC
  dsimp only
  rw [intsP_map]
  cases ns <;> rfl
def isLC (c : Option Cell) : Bool := match c with
  | some (.lst _) => true
  | _ => false
def isDC (c : Option Cell) : Bool := match c with
  | some (.dct _) => true
  | _ => false
@[simp] theorem isLC_ : isLC (some (.lst xs)) = true := id rfl
@[simp] theorem isDC_ : isDC (some (.dct kvs)) = true := id rfl
variable {cl : Cl} {en : En} {es : Exs} {y : P}
@[simp] theorem m_app (h : isLC S[l]? = true) : kMth cl en .append es (.loc l) S = (evs cl es en S).bind (mtV .append (.loc l)) := if_pos h
@[simp] theorem m_pop (h : isLC S[l]? = true) : kMth cl en .pop0 es (.loc l) S = (evs cl es en S).bind (mtV .pop0 (.loc l)) := if_pos h
@[simp] theorem m_rev (h : isLC S[l]? = true) : kMth cl en .reverse es (.loc l) S = (evs cl es en S).bind (mtV .reverse (.loc l)) := if_pos h
@[simp] theorem m_get (h : isDC S[l]? = true) : kMth cl en .get2 es (.loc l) S = (evs cl es en S).bind (mtV .get2 (.loc l)) := if_pos h
@[simp] theorem m_ins (h : isLC S[l]? = true) : kMth cl en .insert es (.loc l) S = (evs cl es en S).bind (mtV .insert (.loc l)) := if_pos h
@[simp] theorem m_cnt (h : isLC S[l]? = true) : kMth cl en .count es (.loc l) S = (evs cl es en S).bind (mtV .count (.loc l)) := if_pos h
@[simp] theorem m_idx (h : isLC S[l]? = true) : kMth cl en .index es (.loc l) S = (evs cl es en S).bind (mtV .index (.loc l)) := if_pos h
theorem mt_ins {xs : List P} {n : Int} {z : P} (h : S[l]? = some (.lst xs)) (h1 : xs.length < 1000000) (h2 : 0 ≤ n) (h3 : n < 2 ^ 62) : mtV .insert (.loc l) [.p (.int n), .p z] S = .ok (.p .none) (S.set l (.lst (xs.take n.toNat ++ [z] ++ xs.drop n.toNat))) := by
  unfold mtV
  dsimp only
  rw [h]
  exact if_pos ⟨h1, h2, h3⟩
theorem mt_cnt {xs : List P} {bs : List Bool} {b : Bool} (h : S[l]? = some (.lst xs)) (h1 : blsP xs = some bs) : mtV .count (.loc l) [.p (.bool b)] S = .ok (.p (.int (bs.count b : Nat))) S := by
  unfold mtV
  dsimp only
  rw [h]
  dsimp only
  rw [h1]
  rfl
theorem mt_idx {xs : List P} {z : P} {j : Nat} (h : S[l]? = some (.lst xs)) (h1 : (flatP z && xs.all flatP) = true) (h2 : xs.findIdx? (fun y => PyData.eqv y z) = some j) : mtV .index (.loc l) [.p z] S = .ok (.p (.int (j : Nat))) S := by
  unfold mtV
  dsimp only
  rw [h]
  dsimp only
  rw [if_pos h1, h2]
  rfl
@[simp] theorem m_join : kMth cl en .join es (.p (.str a)) S = (evs cl es en S).bind (mtV .join (.p (.str a))) := if_pos rfl
@[simp] theorem m_index : kMth cl en .index es (.p (.str a)) S = (evs cl es en S).bind (mtV .index (.p (.str a))) := if_pos rfl
def jnC (c : Option Cell) (a : Str) (S : Sto) : R PV := match c with
  | some (.lst xs) => (match strsP xs with
    | some ys => if (ys.map (·.length)).sum + ys.length * a.length ≤ 16777216 then okP (.str (Txt.join a ys)) S else .no
    | none => .no)
  | _ => .no
@[simp] theorem mt_jn : mtV .join (.p (.str a)) [.loc l] S = jnC S[l]? a S := id rfl
theorem strsP_map : ∀ {ys : List Str}, strsP (ys.map PyData.str) = some ys
  | [] => rfl
  | y :: ys => by show (strsP (ys.map PyData.str)).map (y :: ·) = _; rw [strsP_map]; rfl
theorem jnC_ {ys : List Str} (h : (ys.map (·.length)).sum + ys.length * a.length ≤ 16777216) : jnC (some (.lst (ys.map .str))) a S = .ok (.p (.str (Txt.join a ys))) S := by
  unfold jnC
  dsimp only
  rw [strsP_map]
  exact if_pos h
theorem mt_ix {b : Str} {k : Nat} {r : List Nat} (h : Builtin.Str.occurrences a b 0 a.length 1 = k :: r) : mtV .index (.p (.str a)) [.p (.str b)] S = .ok (.p (.int (k : Nat))) S := by
  unfold mtV
  dsimp only
  rw [h]
  rfl
def appC (c : Option Cell) (l : Nat) (x : P) (S : Sto) : R PV := match c with
  | some (.lst xs) => if xs.length < 1000000 then .ok (.p .none) (S.set l (.lst (xs ++ [x]))) else .no
  | _ => .no
@[simp] theorem mt_app : mtV .append (.loc l) [.p x] S = appC S[l]? l x S := id rfl
@[simp] theorem appC_ (h : xs.length < 1000000) : appC (some (.lst xs)) l x S = .ok (.p .none) (S.set l (.lst (xs ++ [x]))) := if_pos h
def getC (c : Option Cell) (k d : P) (S : Sto) : R PV := match c with
  | some (.dct kvs) => (match keyP k with
    | some k => okP ((luK kvs k).getD d) S
    | none => .no)
  | _ => .no
@[simp] theorem mt_get : mtV .get2 (.loc l) [.p x, .p y] S = getC S[l]? x y S := id rfl
@[simp] theorem getC_i : getC (some (.dct kvs)) (.int i) y S = .ok (.p ((luK kvs (.inl i)).getD y)) S := id rfl
@[simp] theorem getC_s : getC (some (.dct kvs)) (.str a) y S = .ok (.p ((luK kvs (.inr a)).getD y)) S := id rfl
@[simp] theorem isi_tt : isiV .tup (.p (.tuple xs)) S = .ok true S := id rfl
@[simp] theorem isi_ti : isiV .tup (.p (.int i)) S = .ok false S := id rfl
@[simp] theorem isi_ts : isiV .tup (.p (.str a)) S = .ok false S := id rfl
@[simp] theorem isi_tb : isiV .tup (.p (.bool p)) S = .ok false S := id rfl
@[simp] theorem isi_tn : isiV .tup (.p .none) S = .ok false S := id rfl
@[simp] theorem isi_bi : isiV .bool (.p (.int i)) S = .ok false S := id rfl
@[simp] theorem isi_bs : isiV .bool (.p (.str a)) S = .ok false S := id rfl
@[simp] theorem isi_bt : isiV .bool (.p (.tuple xs)) S = .ok false S := id rfl
@[simp] theorem isi_bb : isiV .bool (.p (.bool p)) S = .ok true S := id rfl
@[simp] theorem isi_bn : isiV .bool (.p .none) S = .ok false S := id rfl
@[simp] theorem isi_ii : isiV .int (.p (.int i)) S = .ok true S := id rfl
@[simp] theorem isi_ib : isiV .int (.p (.bool p)) S = .ok true S := id rfl
@[simp] theorem isi_is : isiV .int (.p (.str a)) S = .ok false S := id rfl
@[simp] theorem isi_it : isiV .int (.p (.tuple xs)) S = .ok false S := id rfl
@[simp] theorem isi_in : isiV .int (.p .none) S = .ok false S := id rfl
@[simp] theorem isi_si : isiV .str (.p (.int i)) S = .ok false S := id rfl
@[simp] theorem isi_ss : isiV .str (.p (.str a)) S = .ok true S := id rfl
@[simp] theorem isi_st : isiV .str (.p (.tuple xs)) S = .ok false S := id rfl
@[simp] theorem isi_sn : isiV .str (.p .none) S = .ok false S := id rfl
def isC (c : Option Cell) (S : Sto) : R Bool := match c with
  | some (.lst _) => .ok true S
  | some (.dct _) => .ok false S
  | none => .no
@[simp] theorem isi_loc : isiV .lst (.loc l) S = isC S[l]? S := id rfl
@[simp] theorem isC_l : isC (some (.lst xs)) S = .ok true S := id rfl
@[simp] theorem isC_d : isC (some (.dct kvs)) S = .ok false S := id rfl
def setC (c : Option Cell) (l : Nat) (k x : P) (S : Sto) : R Unit := match c with
  | some (.lst xs) => (match k with
    | .int i => (match ixN xs.length i with
      | some j => .ok () (S.set l (.lst (xs.set j x)))
      | none => .no)
    | _ => .no)
  | some (.dct kvs) => (match keyP k with
    | some k => if kvs.length < 1000000 then .ok () (S.set l (.dct (puK kvs k x))) else .no
    | none => .no)
  | none => .no
@[simp] theorem set_loc : setV (.loc l) (.p x) (.p y) S = setC S[l]? l x y S := id rfl
@[simp] theorem setC_n {n : Nat} (h : n < xs.length) : setC (some (.lst xs)) l (.int n) y S = .ok () (S.set l (.lst (xs.set n y))) := by
  show (match ixN xs.length (n : Int) with
      | some j => (.ok () (S.set l (.lst (xs.set j y))) : R Unit)
      | none => .no) = _
  have e : ixN xs.length (n : Int) = some n := by
    unfold ixN
    simp
    omega
  rw [e]
@[simp] theorem setC_0 {x : P} : setC (some (.lst (x :: xs))) l (.int 0) y S = .ok () (S.set l (.lst (y :: xs))) := setC_n (n := 0) (by simp)
@[simp] theorem setC_1 {x z : P} : setC (some (.lst (x :: z :: xs))) l (.int 1) y S = .ok () (S.set l (.lst (x :: y :: xs))) := setC_n (n := 1) (by simp)
@[simp] theorem setC_di (h : kvs.length < 1000000) : setC (some (.dct kvs)) l (.int i) y S = .ok () (S.set l (.dct (puK kvs (.inl i) y))) := if_pos h
@[simp] theorem setC_ds (h : kvs.length < 1000000) : setC (some (.dct kvs)) l (.str a) y S = .ok () (S.set l (.dct (puK kvs (.inr a) y))) := if_pos h
end
/-! stores -/
section
variable {S l : Sto} {c d : Cell} {i k : Nat}
@[simp] theorem take_app {n : Nat} (h : S.length = n) : (S ++ l).take n = S := by subst h; simp
@[simp] theorem take_self {n : Nat} (h : S.length = n) : List.take n S = S := by subst h; simp
@[simp] theorem at_new {n : Nat} (h : S.length = n) : (S ++ l)[n]? = l[0]? := by subst h; simp [List.getElem?_append_right]
@[simp] theorem at_newk {n : Nat} (h : S.length = n) : (S ++ l)[n + k]? = l[k]? := by subst h; simp [List.getElem?_append_right]
/-- a place of the store -/
def Has (S : Sto) (i : Nat) : Prop := i < S.length
theorem has_of (h : S[i]? = some c) : Has S i := getE_lt h
@[simp] theorem has_set (h : Has S i) : Has (S.set k c) i := by unfold Has at *; simpa using h
@[simp] theorem has_app (h : Has S i) : Has (S ++ l) i := by unfold Has at *; rw [List.length_append]; omega
@[simp] theorem set_at (h : Has S i) : (S.set i c)[i]? = some c := List.getElem?_set_self h
@[simp] theorem at_old (h : Has S i) : (S ++ l)[i]? = S[i]? := List.getElem?_append_left h
@[simp] theorem set_new {n : Nat} (h : S.length = n) : (S ++ c :: l).set n d = S ++ d :: l := by subst h; simp
@[simp] theorem set_newk {n : Nat} (h : S.length = n) : (S ++ l).set (n + k) d = S ++ l.set k d := by subst h; simp
@[simp] theorem set_old (h : Has S i) : (S ++ l).set i d = S.set i d ++ l := by
  rw [List.set_append_left _ _ h]
@[simp] theorem gc_p {n : Nat} {x : P} : gc n (.p x) S = .ok (.p x) (S.take n) := by
  unfold gc
  simp [gcV]
@[simp] theorem gc_k {n : Nat} (h : S.length = n) : gc n (.loc (n + k)) (S ++ l) = .ok (.loc n) (S ++ (l[k]?).toList) := by
  subst h
  unfold gc
  have e : ¬ (S.length + k < S.length) := by omega
  simp only [gcV, if_neg e]
  have e2 : (S ++ l)[S.length + k]? = l[k]? := at_newk rfl
  simp [e2, List.filterMap_cons]
  cases l[k]? <;> rfl
@[simp] theorem gc_0 {n : Nat} (h : S.length = n) : gc n (.loc n) (S ++ l) = .ok (.loc n) (S ++ (l[0]?).toList) := gc_k (k := 0) h
theorem gc_at (h : i < S.length) : gc S.length (.loc i) (S ++ l) = .ok (.loc i) S := by
  unfold gc
  simp [gcV, h]
end
section
variable {n c : Nat} {v : PV} {S : Sto} {en : En}
@[simp] theorem end_rt : endV n (.rt v S) = gc n v S := id rfl
@[simp] theorem end_nx : endV n (.nx en S) = .ok (.p .none) (S.take n) := id rfl
@[simp] theorem end_ex : endV n (.ex c en S) = .ex c (S.take n) := id rfl
end
@[simp] theorem ix_0 {α : Type} {xs : List α} : ixP xs 0 = xs[0]? := id rfl
theorem ix_n {α : Type} {xs : List α} {n : Nat} : ixP xs (n : Int) = xs[n]? := by
  unfold ixP; rw [if_pos (by omega)]; rfl
theorem ix_mem {α : Type} {xs : List α} {k : Int} (h0 : 0 ≤ k) (h : k < xs.length) : ∃ x ∈ xs, ixP xs k = some x := by
  obtain ⟨n, rfl⟩ := Int.eq_ofNat_of_zero_le h0
  have hn : n < xs.length := by omega
  exact ⟨xs[n], List.getElem_mem hn, by rw [ix_n]; exact List.getElem?_eq_getElem hn⟩
@[simp] theorem ix_1 {α : Type} {xs : List α} : ixP xs 1 = xs[1]? := id rfl
@[simp] theorem ix_2 {α : Type} {xs : List α} : ixP xs 2 = xs[2]? := id rfl
@[simp] theorem ix_3 {α : Type} {xs : List α} : ixP xs 3 = xs[3]? := id rfl
@[simp] theorem ix_4 {α : Type} {xs : List α} : ixP xs 4 = xs[4]? := id rfl
@[simp] theorem cut_1 {α : Type} {x : α} {xs : List α} : cutP (x :: xs) (some 1) none = xs := by
  unfold cutP
  have e : HT.sIx (x :: xs).length 0 (some 1) = 1 := by
    unfold HT.sIx
    simp
  rw [e]
  simp [HT.sIx]
/-- a def's run -/
def runD (cl : Cl) (np ns : Nat) (m : Sms) : List PV → Sto → R PV := fun vs S => if vs.length = np then endV S.length (exss cl m (vs.map some ++ List.replicate (ns - np) none) S) else .no
theorem callE_run {T : Nat → Option FD} {n f np ns : Nat} {m : Sms} (h : T f = some ⟨np, ns, m⟩) : callE T (n + 1) f = runD (callE T n) np ns m := by
  funext vs S
  unfold callE runD
  rw [h]
/-! the things -/
inductive U0 | nat | none | zero
inductive U1 | next | first | second
inductive U2 | all | some | fun' | app | like | never
inductive U3 | same | carry | pair
inductive Th
  | var (n : Int) | nm (s : Str) | n0 (w : U0) | n1 (w : U1) (a : Th) | n2 (w : U2) (a b : Th) | n3 (w : U3) (a b c : Th) | rc (a b c d : Th)
@[simp] def U0.s : U0 → Str
  | .nat => "nat" | .none => "none" | .zero => "zero"
@[simp] def U1.s : U1 → Str
  | .next => "next" | .first => "first" | .second => "second"
@[simp] def U2.s : U2 → Str
  | .all => "all" | .some => "some" | .fun' => "fun" | .app => "app" | .like => "like" | .never => "never"
@[simp] def U3.s : U3 → Str
  | .same => "same" | .carry => "carry" | .pair => "pair"
def Th.e : Th → P
  | .var n => .tuple [.str "var", .int n]
  | .nm s => .tuple [.str "name", .str s]
  | .n0 w => .tuple [.str w.s]
  | .n1 w a => .tuple [.str w.s, a.e]
  | .n2 w a b => .tuple [.str w.s, a.e, b.e]
  | .n3 w a b c => .tuple [.str w.s, a.e, b.e, c.e]
  | .rc a b c d => .tuple [.str "rec", a.e, b.e, c.e, d.e]
def Th.kids : Th → List Th
  | .var _ => [] | .nm _ => [] | .n0 _ => [] | .n1 _ a => [a] | .n2 _ a b => [a, b] | .n3 _ a b c => [a, b, c] | .rc a b c d => [a, b, c, d]
def Th.binds : Th → List Nat
  | .var _ => [] | .nm _ => [] | .n0 _ => []
  | .n1 _ _ => [0]
  | .n2 .all _ _ => [0, 1] | .n2 .some _ _ => [0, 1] | .n2 .fun' _ _ => [0, 1] | .n2 _ _ _ => [0, 0]
  | .n3 .carry _ _ _ => [1, 0, 0] | .n3 _ _ _ _ => [0, 0, 0]
  | .rc _ _ _ _ => [1, 0, 0, 0]
def Th.w : Th → Str
  | .var _ => "var" | .nm _ => "name" | .n0 w => w.s | .n1 w _ => w.s | .n2 w _ _ => w.s | .n3 w _ _ _ => w.s | .rc _ _ _ _ => "rec"
def Th.as : Th → List P
  | .var n => [.int n] | .nm s => [.str s] | .n0 _ => [] | .n1 _ a => [a.e] | .n2 _ a b => [a.e, b.e] | .n3 _ a b c => [a.e, b.e, c.e] | .rc a b c d => [a.e, b.e, c.e, d.e]
theorem Th.e_eq (t : Th) : t.e = .tuple (.str t.w :: t.as) := by cases t <;> rfl
section
variable {n : Int} {s : Str} {u0 : U0} {u1 : U1} {u2 : U2} {u3 : U3} {a b c d : Th}
@[simp] theorem w_0 : (.var n : Th).w = "var" := id rfl
@[simp] theorem as_0 : (.var n : Th).as = [.int n] := id rfl
@[simp] theorem kids_0 : (.var n : Th).kids = [] := id rfl
@[simp] theorem w_1 : (.nm s : Th).w = "name" := id rfl
@[simp] theorem as_1 : (.nm s : Th).as = [.str s] := id rfl
@[simp] theorem kids_1 : (.nm s : Th).kids = [] := id rfl
@[simp] theorem w_2 : (.n0 u0 : Th).w = u0.s := id rfl
@[simp] theorem as_2 : (.n0 u0 : Th).as = [] := id rfl
@[simp] theorem kids_2 : (.n0 u0 : Th).kids = [] := id rfl
@[simp] theorem w_3 : (.n1 u1 a : Th).w = u1.s := id rfl
@[simp] theorem as_3 : (.n1 u1 a : Th).as = [a.e] := id rfl
@[simp] theorem kids_3 : (.n1 u1 a : Th).kids = [a] := id rfl
@[simp] theorem w_4 : (.n2 u2 a b : Th).w = u2.s := id rfl
@[simp] theorem as_4 : (.n2 u2 a b : Th).as = [a.e, b.e] := id rfl
@[simp] theorem kids_4 : (.n2 u2 a b : Th).kids = [a, b] := id rfl
@[simp] theorem w_5 : (.n3 u3 a b c : Th).w = u3.s := id rfl
@[simp] theorem as_5 : (.n3 u3 a b c : Th).as = [a.e, b.e, c.e] := id rfl
@[simp] theorem kids_5 : (.n3 u3 a b c : Th).kids = [a, b, c] := id rfl
@[simp] theorem w_6 : (.rc a b c d : Th).w = "rec" := id rfl
@[simp] theorem as_6 : (.rc a b c d : Th).as = [a.e, b.e, c.e, d.e] := id rfl
@[simp] theorem kids_6 : (.rc a b c d : Th).kids = [a, b, c, d] := id rfl
@[simp] theorem binds_0 : (.var n : Th).binds = [] := id rfl
@[simp] theorem binds_1 : (.nm s : Th).binds = [] := id rfl
@[simp] theorem binds_2 : (.n0 u0 : Th).binds = [] := id rfl
@[simp] theorem binds_3 : (.n1 u1 a : Th).binds = [0] := id rfl
@[simp] theorem binds_4 : (.n2 .all a b : Th).binds = [0, 1] := id rfl
@[simp] theorem binds_5 : (.n2 .some a b : Th).binds = [0, 1] := id rfl
@[simp] theorem binds_6 : (.n2 .fun' a b : Th).binds = [0, 1] := id rfl
@[simp] theorem binds_7 : (.n2 .app a b : Th).binds = [0, 0] := id rfl
@[simp] theorem binds_8 : (.n2 .like a b : Th).binds = [0, 0] := id rfl
@[simp] theorem binds_9 : (.n2 .never a b : Th).binds = [0, 0] := id rfl
@[simp] theorem binds_10 : (.n3 .carry a b c : Th).binds = [1, 0, 0] := id rfl
@[simp] theorem binds_11 : (.n3 .same a b c : Th).binds = [0, 0, 0] := id rfl
@[simp] theorem binds_12 : (.n3 .pair a b c : Th).binds = [0, 0, 0] := id rfl
@[simp] theorem binds_13 : (.rc a b c d : Th).binds = [1, 0, 0, 0] := id rfl
end
section
variable {S : Sto} {t : Th} {i : Int} {lo hi : Option Int}
@[simp] theorem e_ix : ixV (.p t.e) (.p (.int i)) S = oP (ixP (.str t.w :: t.as) i) S := by rw [Th.e_eq]; exact ix_tup
@[simp] theorem e_sl : slV (.p t.e) lo hi S = .ok (.p (.tuple (cutP (.str t.w :: t.as) lo hi))) S := by rw [Th.e_eq]; rfl
@[simp] theorem e_len : biV .len [.p t.e] S = .ok (.p (.int (t.as.length + 1))) S := by rw [Th.e_eq]; rfl
@[simp] theorem e_isi : isiV .tup (.p t.e) S = .ok true S := by rw [Th.e_eq]; rfl
@[simp] theorem e_lst : biV .lst [.p t.e] S = newC (.str t.w :: t.as) S := by rw [Th.e_eq]; rfl
end
end Kp

set_option Elab.async false
set_option linter.all false
set_option maxRecDepth 100000
set_option maxHeartbeats 0
set_option autoImplicit false
/-! the small forms of the defs. -/
namespace Kp
open PySem PySem.Spec PyProof.Rows L2
/- kids_of(thing): 0 thing -/
def m_kids_of : Sms :=
    (.cons (.ift (.or' (.cmp .eq (.ix (.v 0) (.c (.int 0))) (.c (.str "var"))) (.cmp .eq (.ix (.v 0) (.c (.int 0))) (.c (.str "name")))) (.cons (.ret (.lst .nil))
    .nil) .nil)
    (.cons (.ret (.bi .lst (.cons (.sl (.v 0) (.one (.c (.int 1))) .non) .nil)))
    .nil))
/- binds_of(thing): 0 thing -/
def m_binds_of (c_kids_of : Nat) : Sms :=
    (.cons (.ift (.cmp .inn (.ix (.v 0) (.c (.int 0))) (.tup (.cons (.c (.str "all")) (.cons (.c (.str "some")) (.cons (.c (.str "fun")) .nil))))) (.cons (.ret (.lst (.cons (.c (.int 0)) (.cons (.c (.int 1)) .nil))))
    .nil) .nil)
    (.cons (.ift (.cmp .eq (.ix (.v 0) (.c (.int 0))) (.c (.str "rec"))) (.cons (.ret (.lst (.cons (.c (.int 1)) (.cons (.c (.int 0)) (.cons (.c (.int 0)) (.cons (.c (.int 0)) .nil))))))
    .nil) .nil)
    (.cons (.ift (.cmp .eq (.ix (.v 0) (.c (.int 0))) (.c (.str "carry"))) (.cons (.ret (.lst (.cons (.c (.int 1)) (.cons (.c (.int 0)) (.cons (.c (.int 0)) .nil)))))
    .nil) .nil)
    (.cons (.ret (.bin .mul (.lst (.cons (.c (.int 0)) .nil)) (.bi .len (.cons (.call c_kids_of (.cons (.v 0) .nil)) .nil))))
    .nil))))
/- noted(thing, over, found): 0 thing, 1 over, 2 found, 3 kid, 4 bind -/
def m_noted (c_kids_of c_binds_of c_noted : Nat) : Sms :=
    (.cons (.ift (.and' (.cmp .eq (.ix (.v 0) (.c (.int 0))) (.c (.str "var"))) (.cmp .ge (.ix (.v 0) (.c (.int 1))) (.v 1))) (.cons (.setI (.v 2) (.bin .sub (.ix (.v 0) (.c (.int 1))) (.v 1)) (.bin .add (.mth .get2 (.v 2) (.cons (.bin .sub (.ix (.v 0) (.c (.int 1))) (.v 1)) (.cons (.c (.int 0)) .nil))) (.c (.int 1))))
    .nil) .nil)
    (.cons (.for' (.tp [3, 4]) (.zip (.call c_kids_of (.cons (.v 0) .nil)) (.call c_binds_of (.cons (.v 0) .nil))) (.cons (.ex (.call c_noted (.cons (.v 3) (.cons (.bin .add (.v 1) (.v 4)) (.cons (.v 2) .nil)))))
    .nil))
    .nil))
/- free_in(thing): 0 thing, 1 found -/
def m_free_in (c_noted : Nat) : Sms :=
    (.cons (.asg (.nm 1) (.dct [] .nil))
    (.cons (.ex (.call c_noted (.cons (.v 0) (.cons (.c (.int 0)) (.cons (.v 1) .nil)))))
    (.cons (.ret (.bi .sorted (.cons (.bi .lst (.cons (.v 1) .nil)) .nil)))
    .nil)))
/- _law_cell_at(_law_script, _law_k): 0 _law_script, 1 _law_k -/
def m_l_cell_at : Sms :=
    (.cons (.ift (.cmp .lt (.v 1) (.bi .len (.cons (.v 0) .nil))) (.cons (.ret (.ix (.v 0) (.v 1)))
    .nil) .nil)
    (.cons (.ret (.c (.int 0)))
    .nil))
/- _law_next(_law_state_here): 0 _law_state_here -/
def m_l_next : Sms :=
    (.cons (.setI (.v 0) (.c (.int 0)) (.bin .mod (.bin .mul (.ix (.v 0) (.c (.int 0))) (.c (.int 48271))) (.c (.int 2147483647))))
    (.cons (.setI (.v 0) (.c (.int 1)) (.bin .sub (.ix (.v 0) (.c (.int 1))) (.c (.int 1))))
    (.cons (.ret (.bin .fdiv (.ix (.v 0) (.c (.int 0))) (.c (.int 7))))
    .nil)))
/- _law_state(_law_cell, _law_most): 0 _law_cell, 1 _law_most -/
def m_l_state : Sms :=
    (.cons (.ret (.lst (.cons (.bin .add (.c (.int 1)) (.bin .mod (.v 0) (.c (.int 2147483646)))) (.cons (.bin .mod (.bin .fdiv (.v 0) (.c (.int 3))) (.bin .add (.v 1) (.c (.int 1)))) .nil))))
    .nil)
/- _law_shape(_law_word): 0 _law_word, 1 _law_shapes, 2 _law_more -/
def m_l_shape : Sms :=
    (.cons (.asg (.nm 1) (.dct ["nat", "none", "zero", "all", "some", "same", "fun", "app"] (.cons (.c (.str "")) (.cons (.c (.str "")) (.cons (.c (.str "")) (.cons (.c (.str "kk")) (.cons (.c (.str "kk")) (.cons (.c (.str "ktt")) (.cons (.c (.str "kt")) (.cons (.c (.str "tt")) .nil))))))))))
    (.cons (.asg (.nm 2) (.dct ["next", "rec", "like", "carry", "never", "pair", "first"] (.cons (.c (.str "t")) (.cons (.c (.str "kttt")) (.cons (.c (.str "kt")) (.cons (.c (.str "ktt")) (.cons (.c (.str "kt")) (.cons (.c (.str "ktt")) (.cons (.c (.str "t")) .nil)))))))))
    (.cons (.ift (.cmp .inn (.v 0) (.v 1)) (.cons (.ret (.ix (.v 1) (.v 0)))
    .nil) .nil)
    (.cons (.ift (.cmp .inn (.v 0) (.v 2)) (.cons (.ret (.ix (.v 2) (.v 0)))
    .nil) .nil)
    (.cons (.ret (.mth .get2 (.dct ["second", "var", "name"] (.cons (.c (.str "t")) (.cons (.c (.str "n")) (.cons (.c (.str "w")) .nil)))) (.cons (.v 0) (.cons (.c .none) .nil))))
    .nil)))))
/- _law_name(_law_number): 0 _law_number, 1 _law_some, 2 _law_word -/
def m_l_name : Sms :=
    (.cons (.asg (.nm 1) (.c (.str "abcdefghijklmnopqrstuvwxyzabcdefghijkl")))
    (.cons (.asg (.nm 2) (.sl (.v 1) (.one (.bin .mod (.v 0) (.c (.int 26)))) (.one (.bin .add (.bin .add (.bin .mod (.v 0) (.c (.int 26))) (.c (.int 1))) (.bin .mod (.bin .fdiv (.v 0) (.c (.int 26))) (.c (.int 12)))))))
    (.cons (.ift (.cmp .eq (.bin .mod (.bin .fdiv (.v 0) (.c (.int 312))) (.c (.int 3))) (.c (.int 1))) (.cons (.ret (.sl (.bin .add (.sl (.v 2) .non (.one (.c (.int 1)))) (.rev (.v 2))) .non (.one (.c (.int 12)))))
    .nil) .nil)
    (.cons (.ift (.cmp .eq (.bin .mod (.bin .fdiv (.v 0) (.c (.int 312))) (.c (.int 3))) (.c (.int 2))) (.cons (.ret (.sl (.bin .add (.bin .add (.c (.str "o")) (.v 2)) (.v 2)) .non (.one (.c (.int 12)))))
    .nil) .nil)
    (.cons (.ret (.v 2))
    .nil)))))
/- _law_grown(_law_state_here, _law_want, _law_left): 0 _law_state_here, 1 _law_want, 2 _law_left, 3 _law_number, 4 _law_word, 5 _law_parts, 6 _law_kind, 7 _law_words -/
def m_l_grown (c__law_shape c__law_grown c__law_name c__law_next : Nat) : Sms :=
    (.cons (.asg (.nm 3) (.call c__law_next (.cons (.v 0) .nil)))
    (.cons (.ift (.cmp .eq (.v 1) (.c (.str "k"))) (.cons (.asg (.nm 7) (.lst (.cons (.c (.str "nat")) (.cons (.c (.str "all")) (.cons (.c (.str "same")) (.cons (.c (.str "some")) (.cons (.c (.str "nat")) (.cons (.c (.str "all")) (.cons (.c (.str "none")) (.cons (.c (.str "same")) .nil))))))))))
    .nil) (.cons (.asg (.nm 7) (.lst (.cons (.c (.str "var")) (.cons (.c (.str "app")) (.cons (.c (.str "fun")) (.cons (.c (.str "next")) (.cons (.c (.str "var")) (.cons (.c (.str "rec")) (.cons (.c (.str "zero")) (.cons (.c (.str "app")) (.cons (.c (.str "like")) (.cons (.c (.str "carry")) (.cons (.c (.str "never")) (.cons (.c (.str "pair")) .nil))))))))))))))
    (.cons (.asg (.nm 7) (.bin .add (.v 7) (.lst (.cons (.c (.str "first")) (.cons (.c (.str "second")) (.cons (.c (.str "name")) (.cons (.c (.str "var")) .nil)))))))
    .nil)))
    (.cons (.ift (.or' (.cmp .le (.v 2) (.c (.int 1))) (.cmp .lt (.ix (.v 0) (.c (.int 1))) (.c (.int 0)))) (.cons (.asg (.nm 7) (.lst (.cons (.ix (.v 7) (.c (.int 0))) (.cons (.ix (.lst (.cons (.c (.str "none")) (.cons (.c (.str "zero")) .nil))) (.bi .int (.cons (.cmp .eq (.v 1) (.c (.str "t"))) .nil))) .nil))))
    .nil) .nil)
    (.cons (.asg (.nm 4) (.ix (.v 7) (.bin .mod (.v 3) (.bi .len (.cons (.v 7) .nil)))))
    (.cons (.ift (.cmp .eq (.v 4) (.c (.str "var"))) (.cons (.ift (.cmp .eq (.bin .mod (.bin .fdiv (.v 3) (.c (.int 16))) (.c (.int 9))) (.c (.int 0))) (.cons (.ret (.tup (.cons (.c (.str "var")) (.cons (.bin .mod (.bin .fdiv (.v 3) (.c (.int 144))) (.c (.int 100))) .nil))))
    .nil) .nil)
    (.cons (.ret (.tup (.cons (.c (.str "var")) (.cons (.bin .mod (.bin .fdiv (.v 3) (.c (.int 144))) (.c (.int 5))) .nil))))
    .nil)) .nil)
    (.cons (.ift (.cmp .eq (.v 4) (.c (.str "name"))) (.cons (.ret (.tup (.cons (.c (.str "name")) (.cons (.call c__law_name (.cons (.bin .fdiv (.v 3) (.c (.int 16))) .nil)) .nil))))
    .nil) .nil)
    (.cons (.asg (.nm 5) (.lst (.cons (.v 4) .nil)))
    (.cons (.for' (.nm 6) (.val (.call c__law_shape (.cons (.v 4) .nil))) (.cons (.ex (.mth .append (.v 5) (.cons (.call c__law_grown (.cons (.v 0) (.cons (.v 6) (.cons (.bin .sub (.v 2) (.c (.int 1))) .nil)))) .nil)))
    .nil))
    (.cons (.ret (.bi .tup (.cons (.v 5) .nil)))
    .nil)))))))))
/- _law_kids(_law_thing): 0 _law_thing, 1 _law_shape_here, 2 _law_k -/
def m_l_kids (c__law_shape : Nat) : Sms :=
    (.cons (.asg (.nm 1) (.call c__law_shape (.cons (.ix (.v 0) (.c (.int 0))) .nil)))
    (.cons (.ret (.comp 2 (.rng1 (.bi .len (.cons (.v 1) .nil))) (.one (.cmp .inn (.ix (.v 1) (.v 2)) (.c (.str "kt")))) (.ix (.v 0) (.bin .add (.v 2) (.c (.int 1))))))
    .nil))
/- _law_binds(_law_thing): 0 _law_thing -/
def m_l_binds (c__law_kids : Nat) : Sms :=
    (.cons (.ift (.cmp .inn (.ix (.v 0) (.c (.int 0))) (.lst (.cons (.c (.str "all")) (.cons (.c (.str "some")) (.cons (.c (.str "fun")) .nil))))) (.cons (.ret (.lst (.cons (.c (.int 0)) (.cons (.c (.int 1)) .nil))))
    .nil) .nil)
    (.cons (.ift (.cmp .inn (.ix (.v 0) (.c (.int 0))) (.lst (.cons (.c (.str "rec")) (.cons (.c (.str "carry")) .nil)))) (.cons (.ret (.bin .add (.lst (.cons (.c (.int 1)) .nil)) (.bin .mul (.lst (.cons (.c (.int 0)) .nil)) (.bin .sub (.bi .len (.cons (.v 0) .nil)) (.c (.int 2))))))
    .nil) .nil)
    (.cons (.ret (.bin .mul (.lst (.cons (.c (.int 0)) .nil)) (.bi .len (.cons (.call c__law_kids (.cons (.v 0) .nil)) .nil))))
    .nil)))
/- _law_alike(_law_told, _law_due): 0 _law_told, 1 _law_due, 2 _law_k -/
def m_l_alike (c__law_alike : Nat) : Sms :=
    (.cons (.ift (.isi (.v 1) .tup) (.cons (.ift (.or' (.not' (.isi (.v 0) .tup)) (.cmp .ne (.bi .len (.cons (.v 0) .nil)) (.bi .len (.cons (.v 1) .nil)))) (.cons (.ret (.c (.bool false)))
    .nil) .nil)
    (.cons (.ret (.cmp .eq (.comp 2 (.rng1 (.bi .len (.cons (.v 1) .nil))) (.one (.not' (.call c__law_alike (.cons (.ix (.v 0) (.v 2)) (.cons (.ix (.v 1) (.v 2)) .nil))))) (.v 2)) (.lst .nil)))
    .nil)) .nil)
    (.cons (.ret (.and' (.cmp .eq (.isi (.v 0) .bool) (.isi (.v 1) .bool)) (.cmp .eq (.v 0) (.v 1))))
    .nil))
/- _law_free(_law_thing, _law_over): 0 _law_thing, 1 _law_over, 2 _law_kids_here, 3 _law_binds_here, 4 _law_found, 5 _law_k -/
def m_l_free (c__law_free c__law_binds c__law_kids : Nat) : Sms :=
    (.cons (.ift (.cmp .eq (.ix (.v 0) (.c (.int 0))) (.c (.str "var"))) (.cons (.ret (.bin .mul (.lst (.cons (.bin .sub (.ix (.v 0) (.c (.int 1))) (.v 1)) .nil)) (.bi .int (.cons (.cmp .ge (.ix (.v 0) (.c (.int 1))) (.v 1)) .nil))))
    .nil) .nil)
    (.cons (.asg (.nm 2) (.call c__law_kids (.cons (.v 0) .nil)))
    (.cons (.asg (.nm 3) (.call c__law_binds (.cons (.v 0) .nil)))
    (.cons (.asg (.nm 4) (.lst .nil))
    (.cons (.for' (.nm 5) (.rng1 (.bi .len (.cons (.v 2) .nil))) (.cons (.asg (.nm 4) (.bin .add (.v 4) (.call c__law_free (.cons (.ix (.v 2) (.v 5)) (.cons (.bin .add (.v 1) (.ix (.v 3) (.v 5))) .nil)))))
    .nil))
    (.cons (.ret (.v 4))
    .nil))))))
/- _law_tree(_law_cell): 0 _law_cell, 1 _law_thing, 2 _law_k -/
def m_l_tree : Sms :=
    (.cons (.asg (.nm 1) (.tup (.cons (.c (.str "var")) (.cons (.bin .mod (.v 0) (.c (.int 9))) .nil))))
    (.cons (.for' (.nm 2) (.rng1 (.bin .add (.c (.int 4)) (.bin .mod (.bin .fdiv (.v 0) (.c (.int 9))) (.c (.int 5))))) (.cons (.ift (.and' (.cmp .eq (.v 2) (.c (.int 3))) (.cmp .eq (.bin .mod (.v 0) (.c (.int 2))) (.c (.int 0)))) (.cons (.asg (.nm 1) (.tup (.cons (.c (.str "fun")) (.cons (.tup (.cons (.c (.str "nat")) .nil)) (.cons (.v 1) .nil)))))
    .nil) (.cons (.asg (.nm 1) (.tup (.cons (.c (.str "app")) (.cons (.v 1) (.cons (.v 1) .nil)))))
    .nil))
    .nil))
    (.cons (.ret (.v 1))
    .nil)))
/- _law_deep(_law_cell): 0 _law_cell, 1 _law_nat, 2 _law_thing, 3 _law_deep_here, 4 _law_k, 5 _law_way, 6 _law_side -/
def m_l_deep : Sms :=
    (.cons (.asg (.nm 1) (.tup (.cons (.c (.str "nat")) .nil)))
    (.cons (.asg (.nm 2) (.tup (.cons (.c (.str "var")) (.cons (.bin .mod (.v 0) (.c (.int 45))) .nil))))
    (.cons (.asg (.nm 3) (.c (.int 1)))
    (.cons (.for' (.nm 4) (.rng1 (.c (.int 38))) (.cons (.asg (.nm 5) (.bin .mod (.bin .add (.bin .add (.bin .fdiv (.v 0) (.c (.int 7))) (.bin .mul (.v 4) (.v 4))) (.bin .fdiv (.v 4) (.c (.int 3)))) (.c (.int 6))))
    (.cons (.asg (.nm 6) (.tup (.cons (.c (.str "var")) (.cons (.bin .mod (.bin .add (.v 0) (.v 4)) (.c (.int 30))) .nil))))
    (.cons (.ift (.cmp .lt (.v 3) (.bin .add (.c (.int 20)) (.bin .mod (.bin .fdiv (.v 0) (.c (.int 45))) (.c (.int 18))))) (.cons (.asg (.nm 3) (.bin .add (.v 3) (.ix (.lst (.cons (.c (.int 1)) (.cons (.c (.int 1)) (.cons (.c (.int 2)) (.cons (.c (.int 3)) (.cons (.c (.int 2)) (.cons (.c (.int 3)) .nil))))))) (.v 5))))
    (.cons (.ift (.cmp .eq (.v 5) (.c (.int 0))) (.cons (.asg (.nm 2) (.tup (.cons (.c (.str "fun")) (.cons (.v 1) (.cons (.v 2) .nil)))))
    .nil) (.cons (.ift (.cmp .eq (.v 5) (.c (.int 1))) (.cons (.asg (.nm 2) (.tup (.cons (.c (.str "app")) (.cons (.v 6) (.cons (.v 2) .nil)))))
    .nil) (.cons (.ift (.cmp .eq (.v 5) (.c (.int 2))) (.cons (.asg (.nm 2) (.tup (.cons (.c (.str "rec")) (.cons (.tup (.cons (.c (.str "same")) (.cons (.v 1) (.cons (.v 2) (.cons (.v 6) .nil))))) (.cons (.tup (.cons (.c (.str "zero")) .nil)) (.cons (.v 6) (.cons (.tup (.cons (.c (.str "var")) (.cons (.v 4) .nil))) .nil)))))))
    .nil) (.cons (.ift (.cmp .eq (.v 5) (.c (.int 3))) (.cons (.asg (.nm 2) (.tup (.cons (.c (.str "carry")) (.cons (.tup (.cons (.c (.str "all")) (.cons (.v 1) (.cons (.tup (.cons (.c (.str "same")) (.cons (.v 1) (.cons (.v 6) (.cons (.v 2) .nil))))) .nil)))) (.cons (.v 6) (.cons (.tup (.cons (.c (.str "zero")) .nil)) .nil))))))
    .nil) (.cons (.ift (.cmp .eq (.v 5) (.c (.int 4))) (.cons (.asg (.nm 2) (.tup (.cons (.c (.str "first")) (.cons (.tup (.cons (.c (.str "fun")) (.cons (.v 1) (.cons (.v 2) .nil)))) .nil))))
    .nil) (.cons (.asg (.nm 2) (.tup (.cons (.c (.str "never")) (.cons (.tup (.cons (.c (.str "some")) (.cons (.v 1) (.cons (.tup (.cons (.c (.str "same")) (.cons (.v 1) (.cons (.v 6) (.cons (.v 2) .nil))))) .nil)))) (.cons (.v 6) .nil)))))
    .nil))
    .nil))
    .nil))
    .nil))
    .nil))
    .nil)) .nil)
    .nil))))
    (.cons (.ret (.v 2))
    .nil)))))
/- law(_law_script): 0 _law_script, 1 _law_want, 2 _law_thing, 3 _law_found, 4 _law_due, 5 _law_told, 6 _law_k -/
def m_law_v2 (c__law_alike c_free_in c__law_free c__law_cell_at c__law_deep c__law_tree c__law_grown c__law_state : Nat) : Sms :=
    (.cons (.asg (.nm 1) (.ix (.lst (.cons (.c (.str "t")) (.cons (.c (.str "k")) .nil))) (.bin .mod (.call c__law_cell_at (.cons (.v 0) (.cons (.c (.int 1)) .nil))) (.c (.int 2)))))
    (.cons (.asg (.nm 2) (.call c__law_grown (.cons (.call c__law_state (.cons (.call c__law_cell_at (.cons (.v 0) (.cons (.c (.int 0)) .nil))) (.cons (.c (.int 120)) .nil))) (.cons (.v 1) (.cons (.c (.int 10)) .nil)))))
    (.cons (.ift (.cmp .eq (.bin .mod (.bin .fdiv (.call c__law_cell_at (.cons (.v 0) (.cons (.c (.int 1)) .nil))) (.c (.int 2))) (.c (.int 6))) (.c (.int 1))) (.cons (.asg (.nm 2) (.call c__law_tree (.cons (.call c__law_cell_at (.cons (.v 0) (.cons (.c (.int 0)) .nil))) .nil)))
    .nil) .nil)
    (.cons (.ift (.cmp .eq (.bin .mod (.bin .fdiv (.call c__law_cell_at (.cons (.v 0) (.cons (.c (.int 1)) .nil))) (.c (.int 2))) (.c (.int 6))) (.c (.int 2))) (.cons (.asg (.nm 2) (.call c__law_deep (.cons (.call c__law_cell_at (.cons (.v 0) (.cons (.c (.int 0)) .nil))) .nil)))
    .nil) .nil)
    (.cons (.asg (.nm 3) (.call c__law_free (.cons (.v 2) (.cons (.c (.int 0)) .nil))))
    (.cons (.asg (.nm 4) (.comp 6 (.rng1 (.c (.int 100))) (.one (.cmp .inn (.v 6) (.v 3))) (.v 6)))
    (.cons (.asg (.nm 5) (.call c_free_in (.cons (.v 2) .nil)))
    (.cons (.ret (.and' (.isi (.v 5) .lst) (.call c__law_alike (.cons (.bi .tup (.cons (.v 5) .nil)) (.cons (.bi .tup (.cons (.v 4) .nil)) .nil)))))
    .nil))))))))
/- gone_through(thing, place, found): 0 thing, 1 place, 2 found, 3 kids, 4 number -/
def m_gone_through (c_gone_through c_kids_of : Nat) : Sms :=
    (.cons (.ex (.mth .append (.v 2) (.cons (.v 1) .nil)))
    (.cons (.asg (.nm 3) (.call c_kids_of (.cons (.v 0) .nil)))
    (.cons (.for' (.nm 4) (.rng1 (.bi .len (.cons (.v 3) .nil))) (.cons (.ex (.call c_gone_through (.cons (.ix (.v 3) (.v 4)) (.cons (.bin .add (.v 1) (.tup (.cons (.v 4) .nil))) (.cons (.v 2) .nil)))))
    .nil))
    .nil)))
/- places_of(thing): 0 thing, 1 found -/
def m_places_of (c_gone_through : Nat) : Sms :=
    (.cons (.asg (.nm 1) (.lst .nil))
    (.cons (.ex (.call c_gone_through (.cons (.v 0) (.cons (.tup .nil) (.cons (.v 1) .nil)))))
    (.cons (.ret (.v 1))
    .nil)))
/- kid_at(thing, number): 0 thing, 1 number, 2 kids -/
def m_kid_at (c_kids_of x_NoPlace : Nat) : Sms :=
    (.cons (.asg (.nm 2) (.call c_kids_of (.cons (.v 0) .nil)))
    (.cons (.ift (.or' (.cmp .lt (.v 1) (.c (.int 0))) (.cmp .ge (.v 1) (.bi .len (.cons (.v 2) .nil)))) (.cons (.raise x_NoPlace)
    .nil) .nil)
    (.cons (.ret (.ix (.v 2) (.v 1)))
    .nil)))
/- at_place(thing, place): 0 thing, 1 place, 2 number -/
def m_at_place (c_kid_at : Nat) : Sms :=
    (.cons (.for' (.nm 2) (.val (.v 1)) (.cons (.asg (.nm 0) (.call c_kid_at (.cons (.v 0) (.cons (.v 2) .nil))))
    .nil))
    (.cons (.ret (.v 0))
    .nil))
/- binders_at(thing, place): 0 thing, 1 place, 2 over, 3 number, 4 new -/
def m_binders_at (c_binds_of c_kid_at : Nat) : Sms :=
    (.cons (.asg (.nm 2) (.c (.int 0)))
    (.cons (.for' (.nm 3) (.val (.v 1)) (.cons (.asg (.nm 4) (.call c_kid_at (.cons (.v 0) (.cons (.v 3) .nil))))
    (.cons (.asg (.nm 2) (.bin .add (.v 2) (.ix (.call c_binds_of (.cons (.v 0) .nil)) (.v 3))))
    (.cons (.asg (.nm 0) (.v 4))
    .nil))))
    (.cons (.ret (.v 2))
    .nil)))
/- _law_whole(_law_told): 0 _law_told -/
def m_l_whole : Sms :=
    (.cons (.ret (.and' (.isi (.v 0) .int) (.not' (.isi (.v 0) .bool))))
    .nil)
/- _law_places(_law_thing): 0 _law_thing, 1 _law_found, 2 _law_kids_here, 3 _law_k, 4 _law_place -/
def m_l_places (c__law_places c__law_kids : Nat) : Sms :=
    (.cons (.asg (.nm 1) (.lst (.cons (.tup .nil) .nil)))
    (.cons (.asg (.nm 2) (.call c__law_kids (.cons (.v 0) .nil)))
    (.cons (.for' (.nm 3) (.rng1 (.bi .len (.cons (.v 2) .nil))) (.cons (.asg (.nm 1) (.bin .add (.v 1) (.comp 4 (.val (.call c__law_places (.cons (.ix (.v 2) (.v 3)) .nil))) .non (.bin .add (.tup (.cons (.v 3) .nil)) (.v 4)))))
    .nil))
    (.cons (.ret (.v 1))
    .nil))))
/- _law_down(_law_thing, _law_place): 0 _law_thing, 1 _law_place, 2 _law_over, 3 _law_number, 4 _law_kids_here -/
def m_l_down (c__law_binds c__law_kids : Nat) : Sms :=
    (.cons (.asg (.nm 2) (.c (.int 0)))
    (.cons (.for' (.nm 3) (.val (.v 1)) (.cons (.asg (.nm 4) (.call c__law_kids (.cons (.v 0) .nil)))
    (.cons (.ift (.or' (.cmp .lt (.v 3) (.c (.int 0))) (.cmp .ge (.v 3) (.bi .len (.cons (.v 4) .nil)))) (.cons (.ret (.c .none))
    .nil) .nil)
    (.cons (.asg (.nm 2) (.bin .add (.v 2) (.ix (.call c__law_binds (.cons (.v 0) .nil)) (.v 3))))
    (.cons (.asg (.nm 0) (.ix (.v 4) (.v 3)))
    .nil)))))
    (.cons (.ret (.tup (.cons (.v 0) (.cons (.v 2) .nil))))
    .nil)))
/- _law_refused(_law_thing, _law_place): 0 _law_thing, 1 _law_place, 2 _law_refused_here, 3 e -/
def m_l_refused (c_binders_at c_at_place : Nat) (y_KeeperError n_KeeperError y_NoPlace n_NoPlace p0 q0 p1 q1 p2 q2 : List Nat) : Sms :=
    (.cons (.asg (.nm 2) (.c (.int 0)))
    (.cons (.tryM (.cons (.ex (.call c_at_place (.cons (.v 0) (.cons (.v 1) .nil))))
    .nil) (.cons y_NoPlace n_NoPlace (.cons (.asg (.nm 2) (.bin .add (.v 2) (.c (.int 1))))
    .nil)
    .nil))
    (.cons (.tryA (.cons (.ex (.call c_binders_at (.cons (.v 0) (.cons (.v 1) .nil))))
    .nil) y_KeeperError n_KeeperError 3 (.cons (.asg (.nm 2) (.bin .add (.bin .add (.v 2) (.bi .int (.cons (.and' (.isx (.v 3) p0 q0) (.not' (.isx (.v 3) p1 q1))) .nil))) (.bi .int (.cons (.isx (.v 3) p2 q2) .nil))))
    .nil))
    (.cons (.ret (.cmp .eq (.v 2) (.c (.int 3))))
    .nil))))
/- law(_law_script): 0 _law_script, 1 _law_want, 2 _law_thing, 3 _law_places_here, 4 _law_told, 5 _law_place, 6 _law_due, 7 _law_at -/
def m_law_v3 (c__law_alike c_at_place c_binders_at c__law_refused c__law_down c__law_cell_at c_places_of c__law_places c__law_deep c__law_tree c__law_grown c__law_state : Nat) : Sms :=
    (.cons (.asg (.nm 1) (.ix (.lst (.cons (.c (.str "t")) (.cons (.c (.str "k")) .nil))) (.bin .mod (.call c__law_cell_at (.cons (.v 0) (.cons (.c (.int 1)) .nil))) (.c (.int 2)))))
    (.cons (.asg (.nm 2) (.call c__law_grown (.cons (.call c__law_state (.cons (.call c__law_cell_at (.cons (.v 0) (.cons (.c (.int 0)) .nil))) (.cons (.c (.int 60)) .nil))) (.cons (.v 1) (.cons (.c (.int 9)) .nil)))))
    (.cons (.ift (.cmp .eq (.bin .mod (.bin .fdiv (.call c__law_cell_at (.cons (.v 0) (.cons (.c (.int 1)) .nil))) (.c (.int 2))) (.c (.int 6))) (.c (.int 1))) (.cons (.asg (.nm 2) (.call c__law_tree (.cons (.call c__law_cell_at (.cons (.v 0) (.cons (.c (.int 0)) .nil))) .nil)))
    .nil) .nil)
    (.cons (.ift (.cmp .eq (.bin .mod (.bin .fdiv (.call c__law_cell_at (.cons (.v 0) (.cons (.c (.int 1)) .nil))) (.c (.int 2))) (.c (.int 6))) (.c (.int 2))) (.cons (.asg (.nm 2) (.call c__law_deep (.cons (.call c__law_cell_at (.cons (.v 0) (.cons (.c (.int 0)) .nil))) .nil)))
    .nil) .nil)
    (.cons (.asg (.nm 3) (.call c__law_places (.cons (.v 2) .nil)))
    (.cons (.asg (.nm 4) (.call c_places_of (.cons (.v 2) .nil)))
    (.cons (.ift (.or' (.not' (.isi (.v 4) .lst)) (.not' (.call c__law_alike (.cons (.bi .tup (.cons (.v 4) .nil)) (.cons (.bi .tup (.cons (.v 3) .nil)) .nil))))) (.cons (.ret (.c (.bool false)))
    .nil) .nil)
    (.cons (.asg (.nm 5) (.ix (.v 3) (.bin .mod (.call c__law_cell_at (.cons (.v 0) (.cons (.c (.int 2)) .nil))) (.bi .len (.cons (.v 3) .nil)))))
    (.cons (.ift (.cmp .eq (.bin .mod (.call c__law_cell_at (.cons (.v 0) (.cons (.c (.int 3)) .nil))) (.c (.int 2))) (.c (.int 1))) (.cons (.asg (.nm 7) (.bin .mod (.call c__law_cell_at (.cons (.v 0) (.cons (.c (.int 4)) .nil))) (.bin .add (.bi .len (.cons (.v 5) .nil)) (.c (.int 1)))))
    (.cons (.asg (.nm 5) (.bin .add (.bin .add (.sl (.v 5) .non (.one (.v 7))) (.tup (.cons (.bin .sub (.bin .mod (.call c__law_cell_at (.cons (.v 0) (.cons (.c (.int 5)) .nil))) (.c (.int 8))) (.c (.int 2))) .nil))) (.sl (.v 5) (.one (.v 7)) .non)))
    .nil)) .nil)
    (.cons (.asg (.nm 6) (.call c__law_down (.cons (.v 2) (.cons (.v 5) .nil))))
    (.cons (.ift (.cmp .is (.v 6) (.c .none)) (.cons (.ret (.call c__law_refused (.cons (.v 2) (.cons (.v 5) .nil))))
    .nil) .nil)
    (.cons (.ret (.and' (.call c__law_alike (.cons (.call c_at_place (.cons (.v 2) (.cons (.v 5) .nil))) (.cons (.ix (.v 6) (.c (.int 0))) .nil))) (.call c__law_alike (.cons (.call c_binders_at (.cons (.v 2) (.cons (.v 5) .nil))) (.cons (.ix (.v 6) (.c (.int 1))) .nil)))))
    .nil))))))))))))
/- made_plain(thing, kids): 0 thing, 1 kids -/
def m_made_plain : Sms :=
    (.cons (.ift (.not' (.v 1)) (.cons (.ret (.v 0))
    .nil) .nil)
    (.cons (.ret (.bin .add (.tup (.cons (.ix (.v 0) (.c (.int 0))) .nil)) (.bi .tup (.cons (.v 1) .nil))))
    .nil))
/- size_of(thing): 0 thing, 1 total, 2 kid -/
def m_size_of (c_kids_of c_size_of : Nat) : Sms :=
    (.cons (.asg (.nm 1) (.c (.int 1)))
    (.cons (.for' (.nm 2) (.val (.call c_kids_of (.cons (.v 0) .nil))) (.cons (.asg (.nm 1) (.bin .add (.v 1) (.call c_size_of (.cons (.v 2) .nil))))
    .nil))
    (.cons (.ret (.v 1))
    .nil)))
/- depth_of(thing): 0 thing, 1 kid -/
def m_depth_of (c_kids_of c_depth_of : Nat) : Sms :=
    (.cons (.ret (.bin .add (.c (.int 1)) (.bi .maxd (.cons (.comp 1 (.val (.call c_kids_of (.cons (.v 0) .nil))) .non (.call c_depth_of (.cons (.v 1) .nil))) (.cons (.c (.int 0)) .nil)))))
    .nil)
/- greatest_of(thing): 0 thing, 1 kid -/
def m_greatest_of (c_kids_of c_greatest_of : Nat) : Sms :=
    (.cons (.ift (.cmp .eq (.ix (.v 0) (.c (.int 0))) (.c (.str "var"))) (.cons (.ret (.ix (.v 0) (.c (.int 1))))
    .nil) .nil)
    (.cons (.ret (.bi .maxd (.cons (.comp 1 (.val (.call c_kids_of (.cons (.v 0) .nil))) .non (.call c_greatest_of (.cons (.v 1) .nil))) (.cons (.neg (.c (.int 1))) .nil))))
    .nil))
/- bounded(thing): 0 thing -/
def m_bounded (c_size_of c_depth_of c_greatest_of x_Great : Nat) : Sms :=
    (.cons (.ift (.or' (.cmp .gt (.call c_size_of (.cons (.v 0) .nil)) (.c (.int 600))) (.or' (.cmp .gt (.call c_depth_of (.cons (.v 0) .nil)) (.c (.int 40))) (.cmp .gt (.call c_greatest_of (.cons (.v 0) .nil)) (.c (.int 99))))) (.cons (.raise x_Great)
    .nil) .nil)
    (.cons (.ret (.v 0))
    .nil))
/- moved(thing, by, low): 0 thing, 1 by, 2 low, 3 kids, 4 kid, 5 bind -/
def m_moved (c_made_plain c_kids_of c_binds_of c_moved : Nat) : Sms :=
    (.cons (.ift (.cmp .eq (.ix (.v 0) (.c (.int 0))) (.c (.str "var"))) (.cons (.ift (.cmp .ge (.ix (.v 0) (.c (.int 1))) (.v 2)) (.cons (.ret (.tup (.cons (.c (.str "var")) (.cons (.bin .add (.ix (.v 0) (.c (.int 1))) (.v 1)) .nil))))
    .nil) .nil)
    (.cons (.ret (.v 0))
    .nil)) .nil)
    (.cons (.asg (.nm 3) (.lst .nil))
    (.cons (.for' (.tp [4, 5]) (.zip (.call c_kids_of (.cons (.v 0) .nil)) (.call c_binds_of (.cons (.v 0) .nil))) (.cons (.ex (.mth .append (.v 3) (.cons (.call c_moved (.cons (.v 4) (.cons (.v 1) (.cons (.bin .add (.v 2) (.v 5)) .nil)))) .nil)))
    .nil))
    (.cons (.ret (.call c_made_plain (.cons (.v 0) (.cons (.v 3) .nil))))
    .nil))))
/- lifted(thing, by, low): 0 thing, 1 by, 2 low -/
def m_lifted (c_bounded c_moved : Nat) : Sms :=
    (.cons (.ret (.call c_bounded (.cons (.call c_moved (.cons (.v 0) (.cons (.v 1) (.cons (.v 2) .nil)))) .nil)))
    .nil)
/- placed(thing, other, at, over): 0 thing, 1 other, 2 at, 3 over, 4 kids, 5 kid, 6 bind -/
def m_placed (c_made_plain c_kids_of c_binds_of c_placed c_moved : Nat) : Sms :=
    (.cons (.ift (.cmp .eq (.ix (.v 0) (.c (.int 0))) (.c (.str "var"))) (.cons (.ift (.cmp .eq (.ix (.v 0) (.c (.int 1))) (.bin .add (.v 2) (.v 3))) (.cons (.ret (.call c_moved (.cons (.v 1) (.cons (.v 3) (.cons (.c (.int 0)) .nil)))))
    .nil) .nil)
    (.cons (.ift (.cmp .gt (.ix (.v 0) (.c (.int 1))) (.bin .add (.v 2) (.v 3))) (.cons (.ret (.tup (.cons (.c (.str "var")) (.cons (.bin .sub (.ix (.v 0) (.c (.int 1))) (.c (.int 1))) .nil))))
    .nil) .nil)
    (.cons (.ret (.v 0))
    .nil))) .nil)
    (.cons (.asg (.nm 4) (.lst .nil))
    (.cons (.for' (.tp [5, 6]) (.zip (.call c_kids_of (.cons (.v 0) .nil)) (.call c_binds_of (.cons (.v 0) .nil))) (.cons (.ex (.mth .append (.v 4) (.cons (.call c_placed (.cons (.v 5) (.cons (.v 1) (.cons (.v 2) (.cons (.bin .add (.v 3) (.v 6)) .nil))))) .nil)))
    .nil))
    (.cons (.ret (.call c_made_plain (.cons (.v 0) (.cons (.v 4) .nil))))
    .nil))))
/- put_in(thing, other, at): 0 thing, 1 other, 2 at, 3 found -/
def m_put_in (c_bounded c_placed c_size_of c_noted x_Great : Nat) : Sms :=
    (.cons (.asg (.nm 3) (.dct [] .nil))
    (.cons (.ex (.call c_noted (.cons (.v 0) (.cons (.c (.int 0)) (.cons (.v 3) .nil)))))
    (.cons (.ift (.cmp .gt (.bin .add (.call c_size_of (.cons (.v 0) .nil)) (.bin .mul (.mth .get2 (.v 3) (.cons (.v 2) (.cons (.c (.int 0)) .nil))) (.bin .sub (.call c_size_of (.cons (.v 1) .nil)) (.c (.int 1))))) (.c (.int 600))) (.cons (.raise x_Great)
    .nil) .nil)
    (.cons (.ret (.call c_bounded (.cons (.call c_placed (.cons (.v 0) (.cons (.v 1) (.cons (.v 2) (.cons (.c (.int 0)) .nil))))) .nil)))
    .nil))))
/- _law_twice(_law_thing, _law_one, _law_other, _law_low, _law_high): 0 _law_thing, 1 _law_one, 2 _law_other, 3 _law_low, 4 _law_high, 5 _law_first, 6 _law_behind -/
def m_l_twice (c__law_alike c_put_in c_lifted : Nat) : Sms :=
    (.cons (.asg (.nm 5) (.call c_lifted (.cons (.call c_lifted (.cons (.v 0) (.cons (.c (.int 1)) (.cons (.v 4) .nil)))) (.cons (.c (.int 1)) (.cons (.v 3) .nil)))))
    (.cons (.ift (.not' (.call c__law_alike (.cons (.v 5) (.cons (.call c_lifted (.cons (.call c_lifted (.cons (.v 0) (.cons (.c (.int 1)) (.cons (.v 3) .nil)))) (.cons (.c (.int 1)) (.cons (.bin .add (.v 4) (.c (.int 1))) .nil)))) .nil)))) (.cons (.ret (.c (.bool false)))
    .nil) .nil)
    (.cons (.asg (.nm 5) (.call c_put_in (.cons (.call c_put_in (.cons (.v 0) (.cons (.v 1) (.cons (.v 3) .nil)))) (.cons (.v 2) (.cons (.v 4) .nil)))))
    (.cons (.asg (.nm 6) (.call c_put_in (.cons (.v 0) (.cons (.call c_lifted (.cons (.v 2) (.cons (.c (.int 1)) (.cons (.v 3) .nil)))) (.cons (.bin .add (.v 4) (.c (.int 1))) .nil)))))
    (.cons (.ift (.not' (.call c__law_alike (.cons (.v 5) (.cons (.call c_put_in (.cons (.v 6) (.cons (.call c_put_in (.cons (.v 1) (.cons (.v 2) (.cons (.v 4) .nil)))) (.cons (.v 3) .nil)))) .nil)))) (.cons (.ret (.c (.bool false)))
    .nil) .nil)
    (.cons (.asg (.nm 5) (.call c_lifted (.cons (.call c_put_in (.cons (.v 0) (.cons (.v 1) (.cons (.v 3) .nil)))) (.cons (.c (.int 1)) (.cons (.v 4) .nil)))))
    (.cons (.ret (.call c__law_alike (.cons (.v 5) (.cons (.call c_put_in (.cons (.call c_lifted (.cons (.v 0) (.cons (.c (.int 1)) (.cons (.bin .add (.v 4) (.c (.int 1))) .nil)))) (.cons (.call c_lifted (.cons (.v 1) (.cons (.c (.int 1)) (.cons (.v 4) .nil)))) (.cons (.v 3) .nil)))) .nil))))
    .nil)))))))
/- law(_law_script): 0 _law_script, 1 _law_want, 2 _law_thing, 3 _law_one, 4 _law_other, 5 _law_low, 6 _law_high, 7 _law_up -/
def m_law_v4 (c__law_twice c_free_in c__law_alike c_put_in c_lifted c__law_cell_at c__law_grown c__law_state c__law_deep : Nat) (y_Great n_Great : List Nat) : Sms :=
    (.cons (.asg (.nm 1) (.ix (.lst (.cons (.c (.str "t")) (.cons (.c (.str "k")) .nil))) (.bin .mod (.call c__law_cell_at (.cons (.v 0) (.cons (.c (.int 1)) .nil))) (.c (.int 2)))))
    (.cons (.asg (.nm 2) (.call c__law_grown (.cons (.call c__law_state (.cons (.call c__law_cell_at (.cons (.v 0) (.cons (.c (.int 0)) .nil))) (.cons (.c (.int 40)) .nil))) (.cons (.v 1) (.cons (.c (.int 7)) .nil)))))
    (.cons (.ift (.cmp .eq (.bin .mod (.bin .fdiv (.call c__law_cell_at (.cons (.v 0) (.cons (.c (.int 1)) .nil))) (.c (.int 2))) (.c (.int 6))) (.c (.int 2))) (.cons (.asg (.nm 2) (.call c__law_deep (.cons (.call c__law_cell_at (.cons (.v 0) (.cons (.c (.int 0)) .nil))) .nil)))
    .nil) .nil)
    (.cons (.asg (.nm 3) (.call c__law_grown (.cons (.call c__law_state (.cons (.call c__law_cell_at (.cons (.v 0) (.cons (.c (.int 2)) .nil))) (.cons (.c (.int 12)) .nil))) (.cons (.c (.str "t")) (.cons (.c (.int 4)) .nil)))))
    (.cons (.asg (.nm 4) (.call c__law_grown (.cons (.call c__law_state (.cons (.call c__law_cell_at (.cons (.v 0) (.cons (.c (.int 3)) .nil))) (.cons (.c (.int 12)) .nil))) (.cons (.c (.str "t")) (.cons (.c (.int 4)) .nil)))))
    (.cons (.asg (.nm 5) (.bin .mod (.call c__law_cell_at (.cons (.v 0) (.cons (.c (.int 4)) .nil))) (.c (.int 5))))
    (.cons (.asg (.nm 6) (.bin .add (.v 5) (.bin .mod (.call c__law_cell_at (.cons (.v 0) (.cons (.c (.int 5)) .nil))) (.bin .sub (.c (.int 5)) (.v 5)))))
    (.cons (.tryM (.cons (.asg (.nm 7) (.call c_lifted (.cons (.v 2) (.cons (.c (.int 1)) (.cons (.v 5) .nil)))))
    (.cons (.ift (.or' (.cmp .inn (.v 5) (.call c_free_in (.cons (.v 7) .nil))) (.not' (.call c__law_alike (.cons (.call c_put_in (.cons (.v 7) (.cons (.v 3) (.cons (.v 5) .nil)))) (.cons (.v 2) .nil))))) (.cons (.ret (.c (.bool false)))
    .nil) .nil)
    (.cons (.ret (.call c__law_twice (.cons (.v 2) (.cons (.v 3) (.cons (.v 4) (.cons (.v 5) (.cons (.v 6) .nil)))))))
    .nil))) (.cons y_Great n_Great (.cons (.ret (.c (.bool true)))
    .nil)
    .nil))
    .nil))))))))
/- rule_of(thing, book): 0 thing, 1 book, 2 word -/
def m_rule_of : Sms :=
    (.cons (.asg (.nm 2) (.ix (.v 0) (.c (.int 0))))
    (.cons (.ift (.and' (.cmp .eq (.v 2) (.c (.str "app"))) (.cmp .eq (.ix (.ix (.v 0) (.c (.int 1))) (.c (.int 0))) (.c (.str "fun")))) (.cons (.ret (.c (.str "fun")))
    .nil) .nil)
    (.cons (.ift (.and' (.cmp .eq (.v 2) (.c (.str "rec"))) (.cmp .inn (.ix (.ix (.v 0) (.c (.int 4))) (.c (.int 0))) (.tup (.cons (.c (.str "zero")) (.cons (.c (.str "next")) .nil))))) (.cons (.ret (.ix (.ix (.v 0) (.c (.int 4))) (.c (.int 0))))
    .nil) .nil)
    (.cons (.ift (.and' (.cmp .eq (.v 2) (.c (.str "carry"))) (.cmp .eq (.ix (.ix (.v 0) (.c (.int 3))) (.c (.int 0))) (.c (.str "like")))) (.cons (.ret (.c (.str "like")))
    .nil) .nil)
    (.cons (.ift (.and' (.cmp .inn (.v 2) (.tup (.cons (.c (.str "first")) (.cons (.c (.str "second")) .nil)))) (.cmp .eq (.ix (.ix (.v 0) (.c (.int 1))) (.c (.int 0))) (.c (.str "pair")))) (.cons (.ret (.v 2))
    .nil) .nil)
    (.cons (.ift (.and' (.cmp .eq (.v 2) (.c (.str "name"))) (.cmp .inn (.ix (.v 0) (.c (.int 1))) (.v 1))) (.cons (.ret (.c (.str "name")))
    .nil) .nil)
    (.cons (.ret (.c .none))
    .nil)))))))
/- _law_draw(_law_script, _law_tape, _law_many): 0 _law_script, 1 _law_tape, 2 _law_many, 3 _law_seed, 4 _law_cell -/
def m_l_draw : Sms :=
    (.cons (.setI (.v 1) (.c (.int 0)) (.bin .add (.ix (.v 1) (.c (.int 0))) (.c (.int 1))))
    (.cons (.ift (.cmp .le (.ix (.v 1) (.c (.int 0))) (.bi .len (.cons (.v 0) .nil))) (.cons (.ret (.bin .mod (.ix (.v 0) (.bin .sub (.ix (.v 1) (.c (.int 0))) (.c (.int 1)))) (.v 2)))
    .nil) .nil)
    (.cons (.asg (.nm 3) (.bi .len (.cons (.v 0) .nil)))
    (.cons (.for' (.nm 4) (.val (.sl (.v 0) .non (.one (.c (.int 4))))) (.cons (.asg (.nm 3) (.bin .mod (.bin .add (.bin .mul (.v 3) (.c (.int 131))) (.v 4)) (.c (.int 1000003))))
    .nil))
    (.cons (.ret (.bin .mod (.bin .mod (.bin .mul (.bin .add (.v 3) (.c (.int 7))) (.bin .add (.bin .mul (.ix (.v 1) (.c (.int 0))) (.ix (.v 1) (.c (.int 0)))) (.c (.int 48271)))) (.c (.int 1000003))) (.v 2)))
    .nil)))))
/- _law_named(_law_word): 0 _law_word -/
def m_l_named : Sms :=
    (.cons (.ift (.cmp .inn (.v 0) (.tup (.cons (.c (.str "nat")) (.cons (.c (.str "none")) (.cons (.c (.str "all")) (.cons (.c (.str "some")) (.cons (.c (.str "same")) (.cons (.c (.str "var")) (.cons (.c (.str "fun")) (.cons (.c (.str "app")) (.cons (.c (.str "zero")) (.cons (.c (.str "next")) (.cons (.c (.str "rec")) (.cons (.c (.str "like")) (.cons (.c (.str "carry")) .nil))))))))))))))) (.cons (.ret (.bin .add (.sl (.v 0) .non (.one (.neg (.c (.int 1))))) (.c (.str "q"))))
    .nil) .nil)
    (.cons (.ift (.cmp .inn (.v 0) (.tup (.cons (.c (.str "never")) (.cons (.c (.str "pair")) (.cons (.c (.str "first")) (.cons (.c (.str "second")) (.cons (.c (.str "name")) .nil))))))) (.cons (.ret (.bin .add (.sl (.v 0) .non (.one (.neg (.c (.int 1))))) (.c (.str "q"))))
    .nil) .nil)
    (.cons (.ret (.v 0))
    .nil)))
/- _law_pool(_law_script, _law_tape): 0 _law_script, 1 _law_tape, 2 _law_letters, 3 _law_cell, 4 _law_size, 5 _law_word, 6 _law_at, 7 _law_other, 8 _law_words, 9 _law_one, 10 _law_k -/
def m_l_pool (c__law_named c__law_draw : Nat) : Sms :=
    (.cons (.asg (.nm 2) (.c (.str "abcdefghijklmnopqrstuvwxyz")))
    (.cons (.asg (.nm 3) (.call c__law_draw (.cons (.v 0) (.cons (.v 1) (.cons (.bin .pow (.c (.int 10)) (.c (.int 9))) .nil)))))
    (.cons (.asg (.nm 4) (.bin .add (.c (.int 1)) (.call c__law_draw (.cons (.v 0) (.cons (.v 1) (.cons (.c (.int 12)) .nil))))))
    (.cons (.asg (.nm 5) (.mth .join (.c (.str "")) (.cons (.comp 10 (.rng1 (.v 4)) .non (.ix (.v 2) (.bin .mod (.bin .add (.bin .fdiv (.v 3) (.bin .add (.v 10) (.c (.int 1)))) (.bin .mul (.c (.int 5)) (.v 10))) (.c (.int 26))))) .nil)))
    (.cons (.asg (.nm 6) (.call c__law_draw (.cons (.v 0) (.cons (.v 1) (.cons (.v 4) .nil)))))
    (.cons (.asg (.nm 7) (.ix (.v 2) (.bin .mod (.bin .add (.bin .add (.mth .index (.v 2) (.cons (.ix (.v 5) (.v 6)) .nil)) (.c (.int 1))) (.call c__law_draw (.cons (.v 0) (.cons (.v 1) (.cons (.c (.int 25)) .nil))))) (.c (.int 26)))))
    (.cons (.asg (.nm 8) (.lst (.cons (.v 5) (.cons (.bin .add (.bin .add (.sl (.v 5) .non (.one (.v 6))) (.v 7)) (.sl (.v 5) (.one (.bin .add (.v 6) (.c (.int 1)))) .non)) (.cons (.sl (.bin .add (.v 7) (.v 5)) .non (.one (.c (.int 12)))) .nil)))))
    (.cons (.ret (.comp 9 (.val (.v 8)) .non (.call c__law_named (.cons (.v 9) .nil))))
    .nil))))))))
/- _law_leaf(_law_script, _law_tape, _law_near, _law_pool_here): 0 _law_script, 1 _law_tape, 2 _law_near, 3 _law_pool_here, 4 _law_way -/
def m_l_leaf (c__law_draw : Nat) : Sms :=
    (.cons (.asg (.nm 4) (.call c__law_draw (.cons (.v 0) (.cons (.v 1) (.cons (.c (.int 6)) .nil)))))
    (.cons (.ift (.cmp .eq (.v 4) (.c (.int 0))) (.cons (.ret (.tup (.cons (.c (.str "zero")) .nil)))
    .nil) .nil)
    (.cons (.ift (.cmp .eq (.v 4) (.c (.int 1))) (.cons (.ret (.tup (.cons (.c (.str "name")) (.cons (.ix (.v 3) (.call c__law_draw (.cons (.v 0) (.cons (.v 1) (.cons (.c (.int 3)) .nil))))) .nil))))
    .nil) .nil)
    (.cons (.ift (.cmp .eq (.v 2) (.c (.int 0))) (.cons (.ret (.tup (.cons (.c (.str "next")) (.cons (.tup (.cons (.c (.str "zero")) .nil)) .nil))))
    .nil) .nil)
    (.cons (.ift (.cmp .eq (.v 4) (.c (.int 2))) (.cons (.ret (.tup (.cons (.c (.str "var")) (.cons (.call c__law_draw (.cons (.v 0) (.cons (.v 1) (.cons (.v 2) .nil)))) .nil))))
    .nil) .nil)
    (.cons (.ret (.tup (.cons (.c (.str "var")) (.cons (.call c__law_draw (.cons (.v 0) (.cons (.v 1) (.cons (.bi .min2 (.cons (.v 2) (.cons (.c (.int 3)) .nil))) .nil)))) .nil))))
    .nil))))))
/- _law_kind(_law_script, _law_tape, _law_deep, _law_near, _law_pool_here): 0 _law_script, 1 _law_tape, 2 _law_deep, 3 _law_near, 4 _law_pool_here, 5 _law_way, 6 _law_first, 7 _law_kind_here -/
def m_l_kind (c__law_term c__law_kind c__law_draw : Nat) : Sms :=
    (.cons (.asg (.nm 5) (.call c__law_draw (.cons (.v 0) (.cons (.v 1) (.cons (.c (.int 7)) .nil)))))
    (.cons (.ift (.or' (.cmp .lt (.v 2) (.c (.int 1))) (.cmp .lt (.v 5) (.c (.int 3)))) (.cons (.ret (.ix (.lst (.cons (.tup (.cons (.c (.str "nat")) .nil)) (.cons (.tup (.cons (.c (.str "nat")) .nil)) (.cons (.tup (.cons (.c (.str "none")) .nil)) .nil)))) (.bin .mod (.v 5) (.c (.int 3)))))
    .nil) .nil)
    (.cons (.ift (.cmp .lt (.v 5) (.c (.int 5))) (.cons (.asg (.nm 6) (.call c__law_kind (.cons (.v 0) (.cons (.v 1) (.cons (.bin .sub (.v 2) (.c (.int 1))) (.cons (.v 3) (.cons (.v 4) .nil)))))))
    (.cons (.ret (.tup (.cons (.ix (.lst (.cons (.c (.str "all")) (.cons (.c (.str "some")) .nil))) (.bin .sub (.v 5) (.c (.int 3)))) (.cons (.v 6) (.cons (.call c__law_kind (.cons (.v 0) (.cons (.v 1) (.cons (.bin .sub (.v 2) (.c (.int 1))) (.cons (.bin .add (.v 3) (.c (.int 1))) (.cons (.v 4) .nil)))))) .nil)))))
    .nil)) .nil)
    (.cons (.asg (.nm 6) (.call c__law_term (.cons (.v 0) (.cons (.v 1) (.cons (.bin .sub (.v 2) (.c (.int 1))) (.cons (.v 3) (.cons (.v 4) .nil)))))))
    (.cons (.asg (.nm 7) (.call c__law_kind (.cons (.v 0) (.cons (.v 1) (.cons (.bin .sub (.v 2) (.c (.int 2))) (.cons (.v 3) (.cons (.v 4) .nil)))))))
    (.cons (.ret (.tup (.cons (.c (.str "same")) (.cons (.v 7) (.cons (.v 6) (.cons (.call c__law_term (.cons (.v 0) (.cons (.v 1) (.cons (.bin .sub (.v 2) (.c (.int 1))) (.cons (.v 3) (.cons (.v 4) .nil)))))) .nil))))))
    .nil))))))
/- _law_fun(_law_script, _law_tape, _law_deep, _law_near, _law_pool_here): 0 _law_script, 1 _law_tape, 2 _law_deep, 3 _law_near, 4 _law_pool_here, 5 _law_kind_here -/
def m_l_fun (c__law_term c__law_kind : Nat) : Sms :=
    (.cons (.asg (.nm 5) (.call c__law_kind (.cons (.v 0) (.cons (.v 1) (.cons (.bin .sub (.v 2) (.c (.int 2))) (.cons (.v 3) (.cons (.v 4) .nil)))))))
    (.cons (.ret (.tup (.cons (.c (.str "fun")) (.cons (.v 5) (.cons (.call c__law_term (.cons (.v 0) (.cons (.v 1) (.cons (.bin .sub (.v 2) (.c (.int 1))) (.cons (.bin .add (.v 3) (.c (.int 1))) (.cons (.v 4) .nil)))))) .nil)))))
    .nil))
/- _law_pair(_law_script, _law_tape, _law_deep, _law_near, _law_pool_here): 0 _law_script, 1 _law_tape, 2 _law_deep, 3 _law_near, 4 _law_pool_here, 5 _law_kind_here, 6 _law_first -/
def m_l_pair (c__law_term c__law_kind : Nat) : Sms :=
    (.cons (.asg (.nm 5) (.call c__law_kind (.cons (.v 0) (.cons (.v 1) (.cons (.bin .sub (.v 2) (.c (.int 2))) (.cons (.v 3) (.cons (.v 4) .nil)))))))
    (.cons (.asg (.nm 6) (.call c__law_term (.cons (.v 0) (.cons (.v 1) (.cons (.bin .sub (.v 2) (.c (.int 1))) (.cons (.v 3) (.cons (.v 4) .nil)))))))
    (.cons (.ret (.tup (.cons (.c (.str "pair")) (.cons (.v 5) (.cons (.v 6) (.cons (.call c__law_term (.cons (.v 0) (.cons (.v 1) (.cons (.bin .sub (.v 2) (.c (.int 1))) (.cons (.v 3) (.cons (.v 4) .nil)))))) .nil))))))
    .nil)))
/- _law_like(_law_script, _law_tape, _law_deep, _law_near, _law_pool_here): 0 _law_script, 1 _law_tape, 2 _law_deep, 3 _law_near, 4 _law_pool_here, 5 _law_kind_here -/
def m_l_like (c__law_term c__law_kind : Nat) : Sms :=
    (.cons (.asg (.nm 5) (.call c__law_kind (.cons (.v 0) (.cons (.v 1) (.cons (.bin .sub (.v 2) (.c (.int 2))) (.cons (.v 3) (.cons (.v 4) .nil)))))))
    (.cons (.ret (.tup (.cons (.c (.str "like")) (.cons (.v 5) (.cons (.call c__law_term (.cons (.v 0) (.cons (.v 1) (.cons (.bin .sub (.v 2) (.c (.int 1))) (.cons (.v 3) (.cons (.v 4) .nil)))))) .nil)))))
    .nil))
/- _law_number(_law_script, _law_tape, _law_deep, _law_near, _law_pool_here): 0 _law_script, 1 _law_tape, 2 _law_deep, 3 _law_near, 4 _law_pool_here -/
def m_l_number (c__law_term c__law_draw : Nat) : Sms :=
    (.cons (.ift (.cmp .eq (.call c__law_draw (.cons (.v 0) (.cons (.v 1) (.cons (.c (.int 3)) .nil)))) (.c (.int 0))) (.cons (.ret (.tup (.cons (.c (.str "zero")) .nil)))
    .nil) .nil)
    (.cons (.ret (.tup (.cons (.c (.str "next")) (.cons (.call c__law_term (.cons (.v 0) (.cons (.v 1) (.cons (.bin .sub (.v 2) (.c (.int 1))) (.cons (.v 3) (.cons (.v 4) .nil)))))) .nil))))
    .nil))
/- _law_parted(_law_script, _law_tape, _law_deep, _law_near, _law_pool_here, _law_way): 0 _law_script, 1 _law_tape, 2 _law_deep, 3 _law_near, 4 _law_pool_here, 5 _law_way, 6 _law_kind_here, 7 _law_first, 8 _law_second, 9 _law_word -/
def m_l_parted (c__law_number c__law_term c__law_like c__law_kind c__law_pair c__law_draw c__law_fun : Nat) : Sms :=
    (.cons (.ift (.cmp .eq (.v 5) (.c (.int 0))) (.cons (.ret (.tup (.cons (.c (.str "app")) (.cons (.call c__law_fun (.cons (.v 0) (.cons (.v 1) (.cons (.v 2) (.cons (.v 3) (.cons (.v 4) .nil)))))) (.cons (.call c__law_term (.cons (.v 0) (.cons (.v 1) (.cons (.bin .sub (.v 2) (.c (.int 1))) (.cons (.v 3) (.cons (.v 4) .nil)))))) .nil)))))
    .nil) .nil)
    (.cons (.ift (.cmp .eq (.v 5) (.c (.int 1))) (.cons (.asg (.nm 9) (.ix (.lst (.cons (.c (.str "first")) (.cons (.c (.str "second")) .nil))) (.call c__law_draw (.cons (.v 0) (.cons (.v 1) (.cons (.c (.int 2)) .nil))))))
    (.cons (.ret (.tup (.cons (.v 9) (.cons (.call c__law_pair (.cons (.v 0) (.cons (.v 1) (.cons (.v 2) (.cons (.v 3) (.cons (.v 4) .nil)))))) .nil))))
    .nil)) .nil)
    (.cons (.asg (.nm 6) (.call c__law_kind (.cons (.v 0) (.cons (.v 1) (.cons (.bin .sub (.v 2) (.c (.int 2))) (.cons (.bin .add (.v 3) (.c (.int 1))) (.cons (.v 4) .nil)))))))
    (.cons (.asg (.nm 7) (.call c__law_term (.cons (.v 0) (.cons (.v 1) (.cons (.bin .sub (.v 2) (.c (.int 1))) (.cons (.v 3) (.cons (.v 4) .nil)))))))
    (.cons (.ift (.cmp .eq (.v 5) (.c (.int 2))) (.cons (.ret (.tup (.cons (.c (.str "carry")) (.cons (.v 6) (.cons (.v 7) (.cons (.call c__law_like (.cons (.v 0) (.cons (.v 1) (.cons (.v 2) (.cons (.v 3) (.cons (.v 4) .nil)))))) .nil))))))
    .nil) .nil)
    (.cons (.asg (.nm 8) (.call c__law_term (.cons (.v 0) (.cons (.v 1) (.cons (.bin .sub (.v 2) (.c (.int 1))) (.cons (.v 3) (.cons (.v 4) .nil)))))))
    (.cons (.ret (.tup (.cons (.c (.str "rec")) (.cons (.v 6) (.cons (.v 7) (.cons (.v 8) (.cons (.call c__law_number (.cons (.v 0) (.cons (.v 1) (.cons (.v 2) (.cons (.v 3) (.cons (.v 4) .nil)))))) .nil)))))))
    .nil)))))))
/- _law_still(_law_script, _law_tape, _law_deep, _law_near, _law_pool_here, _law_way): 0 _law_script, 1 _law_tape, 2 _law_deep, 3 _law_near, 4 _law_pool_here, 5 _law_way, 6 _law_one, 7 _law_two, 8 _law_three -/
def m_l_still (c__law_kind c__law_term c__law_draw c__law_like c__law_pair c__law_fun : Nat) : Sms :=
    (.cons (.ift (.cmp .lt (.v 5) (.c (.int 2))) (.cons (.ret (.tup (.cons (.c (.str "next")) (.cons (.call c__law_term (.cons (.v 0) (.cons (.v 1) (.cons (.bin .sub (.v 2) (.c (.int 1))) (.cons (.v 3) (.cons (.v 4) .nil)))))) .nil))))
    .nil) .nil)
    (.cons (.ift (.cmp .eq (.v 5) (.c (.int 2))) (.cons (.ret (.call c__law_fun (.cons (.v 0) (.cons (.v 1) (.cons (.v 2) (.cons (.v 3) (.cons (.v 4) .nil)))))))
    .nil) .nil)
    (.cons (.ift (.cmp .eq (.v 5) (.c (.int 3))) (.cons (.ret (.call c__law_pair (.cons (.v 0) (.cons (.v 1) (.cons (.v 2) (.cons (.v 3) (.cons (.v 4) .nil)))))))
    .nil) .nil)
    (.cons (.ift (.cmp .eq (.v 5) (.c (.int 4))) (.cons (.ret (.call c__law_like (.cons (.v 0) (.cons (.v 1) (.cons (.v 2) (.cons (.v 3) (.cons (.v 4) .nil)))))))
    .nil) .nil)
    (.cons (.asg (.nm 6) (.call c__law_term (.cons (.v 0) (.cons (.v 1) (.cons (.bin .sub (.v 2) (.c (.int 1))) (.cons (.v 3) (.cons (.v 4) .nil)))))))
    (.cons (.ift (.cmp .eq (.v 5) (.c (.int 5))) (.cons (.ret (.tup (.cons (.c (.str "never")) (.cons (.call c__law_kind (.cons (.v 0) (.cons (.v 1) (.cons (.bin .sub (.v 2) (.c (.int 2))) (.cons (.v 3) (.cons (.v 4) .nil)))))) (.cons (.v 6) .nil)))))
    .nil) .nil)
    (.cons (.ift (.cmp .eq (.v 5) (.c (.int 6))) (.cons (.ret (.tup (.cons (.ix (.lst (.cons (.c (.str "first")) (.cons (.c (.str "second")) .nil))) (.call c__law_draw (.cons (.v 0) (.cons (.v 1) (.cons (.c (.int 2)) .nil))))) (.cons (.v 6) .nil))))
    .nil) .nil)
    (.cons (.asg (.nm 7) (.call c__law_term (.cons (.v 0) (.cons (.v 1) (.cons (.bin .sub (.v 2) (.c (.int 1))) (.cons (.v 3) (.cons (.v 4) .nil)))))))
    (.cons (.ift (.cmp .eq (.v 5) (.c (.int 7))) (.cons (.ret (.tup (.cons (.c (.str "app")) (.cons (.v 6) (.cons (.v 7) .nil)))))
    .nil) .nil)
    (.cons (.ift (.cmp .eq (.v 5) (.c (.int 8))) (.cons (.ret (.tup (.cons (.c (.str "carry")) (.cons (.call c__law_kind (.cons (.v 0) (.cons (.v 1) (.cons (.bin .sub (.v 2) (.c (.int 2))) (.cons (.bin .add (.v 3) (.c (.int 1))) (.cons (.v 4) .nil)))))) (.cons (.v 6) (.cons (.v 7) .nil))))))
    .nil) .nil)
    (.cons (.asg (.nm 8) (.call c__law_term (.cons (.v 0) (.cons (.v 1) (.cons (.bin .sub (.v 2) (.c (.int 1))) (.cons (.v 3) (.cons (.v 4) .nil)))))))
    (.cons (.ret (.tup (.cons (.c (.str "rec")) (.cons (.call c__law_kind (.cons (.v 0) (.cons (.v 1) (.cons (.bin .sub (.v 2) (.c (.int 2))) (.cons (.bin .add (.v 3) (.c (.int 1))) (.cons (.v 4) .nil)))))) (.cons (.v 6) (.cons (.v 7) (.cons (.v 8) .nil)))))))
    .nil))))))))))))
/- _law_term(_law_script, _law_tape, _law_deep, _law_near, _law_pool_here): 0 _law_script, 1 _law_tape, 2 _law_deep, 3 _law_near, 4 _law_pool_here, 5 _law_way -/
def m_l_term (c__law_still c__law_parted c__law_leaf c__law_draw : Nat) : Sms :=
    (.cons (.asg (.nm 5) (.call c__law_draw (.cons (.v 0) (.cons (.v 1) (.cons (.c (.int 17)) .nil)))))
    (.cons (.ift (.or' (.cmp .lt (.v 2) (.c (.int 1))) (.cmp .lt (.v 5) (.c (.int 3)))) (.cons (.ret (.call c__law_leaf (.cons (.v 0) (.cons (.v 1) (.cons (.v 3) (.cons (.v 4) .nil))))))
    .nil) .nil)
    (.cons (.ift (.cmp .lt (.v 5) (.c (.int 7))) (.cons (.ret (.call c__law_parted (.cons (.v 0) (.cons (.v 1) (.cons (.v 2) (.cons (.v 3) (.cons (.v 4) (.cons (.bin .sub (.v 5) (.c (.int 3))) .nil))))))))
    .nil) .nil)
    (.cons (.ret (.call c__law_still (.cons (.v 0) (.cons (.v 1) (.cons (.v 2) (.cons (.v 3) (.cons (.v 4) (.cons (.bin .sub (.v 5) (.c (.int 7))) .nil))))))))
    .nil))))
/- _law_kids(_law_thing_here): 0 _law_thing_here -/
def m_l_kids_v2 : Sms :=
    (.cons (.ift (.cmp .inn (.ix (.v 0) (.c (.int 0))) (.tup (.cons (.c (.str "var")) (.cons (.c (.str "name")) .nil)))) (.cons (.ret (.lst .nil))
    .nil) .nil)
    (.cons (.ret (.bi .lst (.cons (.sl (.v 0) (.one (.c (.int 1))) .non) .nil)))
    .nil))
/- _law_measured(_law_thing_here): 0 _law_thing_here, 1 _law_knots, 2 _law_deep, 3 _law_most, 4 _law_kid, 5 _law_told_here -/
def m_l_measured (c__law_kids c__law_measured : Nat) : Sms :=
    (.cons (.asg (.nm 1) (.c (.int 1)))
    (.cons (.asg (.nm 2) (.c (.int 0)))
    (.cons (.asg (.nm 3) (.neg (.c (.int 1))))
    (.cons (.ift (.cmp .eq (.ix (.v 0) (.c (.int 0))) (.c (.str "var"))) (.cons (.asg (.nm 3) (.ix (.v 0) (.c (.int 1))))
    .nil) .nil)
    (.cons (.for' (.nm 4) (.val (.call c__law_kids (.cons (.v 0) .nil))) (.cons (.asg (.nm 5) (.call c__law_measured (.cons (.v 4) .nil)))
    (.cons (.asg (.nm 1) (.bin .add (.v 1) (.ix (.v 5) (.c (.int 0)))))
    (.cons (.asg (.nm 2) (.bi .max2 (.cons (.v 2) (.cons (.ix (.v 5) (.c (.int 1))) .nil))))
    (.cons (.asg (.nm 3) (.bi .max2 (.cons (.v 3) (.cons (.ix (.v 5) (.c (.int 2))) .nil))))
    .nil)))))
    (.cons (.ret (.tup (.cons (.v 1) (.cons (.bin .add (.v 2) (.c (.int 1))) (.cons (.v 3) .nil)))))
    .nil))))))
/- _law_great(_law_thing_here): 0 _law_thing_here, 1 _law_told_here -/
def m_l_great_v2 (c__law_measured : Nat) : Sms :=
    (.cons (.asg (.nm 1) (.call c__law_measured (.cons (.v 0) .nil)))
    (.cons (.ret (.or' (.cmp .gt (.ix (.v 1) (.c (.int 0))) (.c (.int 600))) (.or' (.cmp .gt (.ix (.v 1) (.c (.int 1))) (.c (.int 40))) (.cmp .gt (.ix (.v 1) (.c (.int 2))) (.c (.int 99))))))
    .nil))
/- _law_thing(_law_script, _law_tape, _law_deep, _law_near, _law_pool_here): 0 _law_script, 1 _law_tape, 2 _law_deep, 3 _law_near, 4 _law_pool_here, 5 _law_made -/
def m_l_thing (c__law_great c__law_draw c__law_kind c__law_term : Nat) : Sms :=
    (.cons (.ift (.cmp .eq (.call c__law_draw (.cons (.v 0) (.cons (.v 1) (.cons (.c (.int 5)) .nil)))) (.c (.int 0))) (.cons (.asg (.nm 5) (.call c__law_kind (.cons (.v 0) (.cons (.v 1) (.cons (.v 2) (.cons (.v 3) (.cons (.v 4) .nil)))))))
    .nil) (.cons (.asg (.nm 5) (.call c__law_term (.cons (.v 0) (.cons (.v 1) (.cons (.v 2) (.cons (.v 3) (.cons (.v 4) .nil)))))))
    .nil))
    (.cons (.ift (.call c__law_great (.cons (.v 5) .nil)) (.cons (.ret (.tup (.cons (.c (.str "zero")) .nil)))
    .nil) .nil)
    (.cons (.ret (.v 5))
    .nil)))
/- _law_book(_law_script, _law_tape, _law_pool_here): 0 _law_script, 1 _law_tape, 2 _law_pool_here, 3 _law_book_here, 4 _law_k, 5 _law_kind_here -/
def m_l_book (c__law_draw c__law_term c__law_kind : Nat) : Sms :=
    (.cons (.asg (.nm 3) (.dct [] .nil))
    (.cons (.for' (.nm 4) (.rng1 (.call c__law_draw (.cons (.v 0) (.cons (.v 1) (.cons (.c (.int 4)) .nil))))) (.cons (.asg (.nm 5) (.call c__law_kind (.cons (.v 0) (.cons (.v 1) (.cons (.c (.int 1)) (.cons (.c (.int 0)) (.cons (.v 2) .nil)))))))
    (.cons (.setI (.v 3) (.ix (.v 2) (.v 4)) (.tup (.cons (.v 5) (.cons (.call c__law_term (.cons (.v 0) (.cons (.v 1) (.cons (.c (.int 2)) (.cons (.c (.int 0)) (.cons (.v 2) .nil)))))) .nil))))
    .nil)))
    (.cons (.ret (.v 3))
    .nil)))
/- _law_rule(_law_thing_here, _law_book_here): 0 _law_thing_here, 1 _law_book_here, 2 _law_word, 3 _law_heads -/
def m_l_rule : Sms :=
    (.cons (.asg (.nm 2) (.ix (.v 0) (.c (.int 0))))
    (.cons (.ift (.cmp .eq (.v 2) (.c (.str "name"))) (.cons (.ret (.ix (.lst (.cons (.c (.str "name")) (.cons (.c .none) .nil))) (.bi .int (.cons (.cmp .nin (.ix (.v 0) (.c (.int 1))) (.v 1)) .nil))))
    .nil) .nil)
    (.cons (.asg (.nm 3) (.dct ["app", "carry", "first", "second"] (.cons (.tup (.cons (.c (.int 1)) (.cons (.c (.str "fun")) .nil))) (.cons (.tup (.cons (.c (.int 3)) (.cons (.c (.str "like")) .nil))) (.cons (.tup (.cons (.c (.int 1)) (.cons (.c (.str "pair")) .nil))) (.cons (.tup (.cons (.c (.int 1)) (.cons (.c (.str "pair")) .nil))) .nil))))))
    (.cons (.ift (.and' (.cmp .inn (.v 2) (.v 3)) (.cmp .eq (.ix (.ix (.v 0) (.ix (.ix (.v 3) (.v 2)) (.c (.int 0)))) (.c (.int 0))) (.ix (.ix (.v 3) (.v 2)) (.c (.int 1))))) (.cons (.ret (.ix (.dct ["app", "carry", "first", "second"] (.cons (.c (.str "fun")) (.cons (.c (.str "like")) (.cons (.c (.str "first")) (.cons (.c (.str "second")) .nil))))) (.v 2)))
    .nil) .nil)
    (.cons (.ift (.and' (.cmp .eq (.v 2) (.c (.str "rec"))) (.cmp .inn (.ix (.ix (.v 0) (.c (.int 4))) (.c (.int 0))) (.tup (.cons (.c (.str "zero")) (.cons (.c (.str "next")) .nil))))) (.cons (.ret (.ix (.ix (.v 0) (.c (.int 4))) (.c (.int 0))))
    .nil) .nil)
    (.cons (.ret (.c .none))
    .nil))))))
/- _law_rows(_law_thing_here, _law_book_here): 0 _law_thing_here, 1 _law_book_here, 2 _law_found, 3 _law_waiting, 4 _law_place, 5 _law_here, 6 _law_kids_here, 7 _law_step, 8 _law_number_here -/
def m_l_rows (c__law_kids c__law_rule : Nat) : Sms :=
    (.cons (.asg (.nm 2) (.lst .nil))
    (.cons (.asg (.nm 3) (.lst (.cons (.tup (.cons (.tup .nil) (.cons (.v 0) .nil))) .nil)))
    (.cons (.while (.cmp .gt (.bi .len (.cons (.v 3) .nil)) (.c (.int 0))) (.cons (.asg (.tp [4, 5]) (.mth .pop0 (.v 3) .nil))
    (.cons (.ex (.mth .append (.v 2) (.cons (.tup (.cons (.v 4) (.cons (.v 5) (.cons (.call c__law_rule (.cons (.v 5) (.cons (.v 1) .nil))) .nil)))) .nil)))
    (.cons (.asg (.nm 6) (.call c__law_kids (.cons (.v 5) .nil)))
    (.cons (.for' (.nm 7) (.rng1 (.bi .len (.cons (.v 6) .nil))) (.cons (.asg (.nm 8) (.bin .sub (.bin .sub (.bi .len (.cons (.v 6) .nil)) (.c (.int 1))) (.v 7)))
    (.cons (.ex (.mth .append (.v 3) (.cons (.tup (.cons (.bin .add (.v 4) (.tup (.cons (.v 8) .nil))) (.cons (.ix (.v 6) (.v 8)) .nil))) .nil)))
    .nil)))
    .nil)))))
    (.cons (.ret (.v 2))
    .nil))))
/- _law_told(_law_found, _law_due): 0 _law_found, 1 _law_due -/
def m_l_told : Sms :=
    (.cons (.ift (.cmp .is (.v 1) (.c .none)) (.cons (.ret (.cmp .is (.v 0) (.c .none)))
    .nil) .nil)
    (.cons (.ret (.and' (.isi (.v 0) .str) (.cmp .eq (.v 0) (.v 1))))
    .nil))
/- _law_all(_law_rows_here, _law_book_here): 0 _law_rows_here, 1 _law_book_here, 2 _law_row -/
def m_l_all (c__law_told c_rule_of : Nat) : Sms :=
    (.cons (.for' (.nm 2) (.val (.v 0)) (.cons (.ift (.not' (.call c__law_told (.cons (.call c_rule_of (.cons (.ix (.v 2) (.c (.int 1))) (.cons (.v 1) .nil))) (.cons (.ix (.v 2) (.c (.int 2))) .nil)))) (.cons (.ret (.c (.bool false)))
    .nil) .nil)
    .nil))
    (.cons (.ret (.c (.bool true)))
    .nil))
/- law(_law_script): 0 _law_script, 1 _law_tape, 2 _law_pool_here, 3 _law_near, 4 _law_book_here, 5 _law_thing_here, 6 _law_rows_here, 7 _law_handed, 8 _law_more, 9 _law_name -/
def m_law_v5 (c__law_told c_rule_of c__law_all c__law_rows c__law_draw c__law_thing c__law_book c__law_pool : Nat) : Sms :=
    (.cons (.asg (.nm 1) (.lst (.cons (.c (.int 0)) .nil)))
    (.cons (.asg (.nm 2) (.call c__law_pool (.cons (.v 0) (.cons (.v 1) .nil))))
    (.cons (.asg (.nm 3) (.ix (.lst (.cons (.c (.int 0)) (.cons (.c (.int 3)) (.cons (.c (.int 90)) .nil)))) (.call c__law_draw (.cons (.v 0) (.cons (.v 1) (.cons (.c (.int 3)) .nil))))))
    (.cons (.asg (.nm 4) (.call c__law_book (.cons (.v 0) (.cons (.v 1) (.cons (.v 2) .nil)))))
    (.cons (.asg (.nm 5) (.call c__law_thing (.cons (.v 0) (.cons (.v 1) (.cons (.bin .add (.c (.int 1)) (.call c__law_draw (.cons (.v 0) (.cons (.v 1) (.cons (.c (.int 5)) .nil))))) (.cons (.v 3) (.cons (.v 2) .nil)))))))
    (.cons (.asg (.nm 6) (.call c__law_rows (.cons (.v 5) (.cons (.v 4) .nil))))
    (.cons (.asg (.nm 7) (.bi .dict (.cons (.v 4) .nil)))
    (.cons (.ift (.or' (.not' (.call c__law_all (.cons (.v 6) (.cons (.v 7) .nil)))) (.cmp .ne (.v 7) (.v 4))) (.cons (.ret (.c (.bool false)))
    .nil) .nil)
    (.cons (.asg (.nm 8) (.bi .dict (.cons (.v 4) .nil)))
    (.cons (.asg (.nm 9) (.ix (.v 2) (.call c__law_draw (.cons (.v 0) (.cons (.v 1) (.cons (.c (.int 3)) .nil))))))
    (.cons (.setI (.v 8) (.v 9) (.tup (.cons (.tup (.cons (.c (.str "nat")) .nil)) (.cons (.tup (.cons (.c (.str "zero")) .nil)) .nil))))
    (.cons (.ift (.not' (.call c__law_all (.cons (.call c__law_rows (.cons (.v 5) (.cons (.v 8) .nil))) (.cons (.v 8) .nil)))) (.cons (.ret (.c (.bool false)))
    .nil) .nil)
    (.cons (.ret (.and' (.call c__law_told (.cons (.call c_rule_of (.cons (.tup (.cons (.c (.str "name")) (.cons (.v 9) .nil))) (.cons (.v 8) .nil))) (.cons (.c (.str "name")) .nil))) (.call c__law_all (.cons (.v 6) (.cons (.v 7) .nil)))))
    .nil)))))))))))))
/- shape_of(word): 0 word -/
def m_shape_of : Sms :=
    (.cons (.ift (.cmp .inn (.v 0) (.tup (.cons (.c (.str "nat")) (.cons (.c (.str "none")) (.cons (.c (.str "zero")) .nil))))) (.cons (.ret (.c (.str "")))
    .nil) .nil)
    (.cons (.ift (.cmp .inn (.v 0) (.tup (.cons (.c (.str "all")) (.cons (.c (.str "some")) .nil)))) (.cons (.ret (.c (.str "kk")))
    .nil) .nil)
    (.cons (.ift (.cmp .inn (.v 0) (.tup (.cons (.c (.str "fun")) (.cons (.c (.str "like")) (.cons (.c (.str "never")) .nil))))) (.cons (.ret (.c (.str "kt")))
    .nil) .nil)
    (.cons (.ift (.cmp .inn (.v 0) (.tup (.cons (.c (.str "same")) (.cons (.c (.str "carry")) (.cons (.c (.str "pair")) .nil))))) (.cons (.ret (.c (.str "ktt")))
    .nil) .nil)
    (.cons (.ift (.cmp .inn (.v 0) (.tup (.cons (.c (.str "next")) (.cons (.c (.str "first")) (.cons (.c (.str "second")) .nil))))) (.cons (.ret (.c (.str "t")))
    .nil) .nil)
    (.cons (.ift (.cmp .eq (.v 0) (.c (.str "app"))) (.cons (.ret (.c (.str "tt")))
    .nil) .nil)
    (.cons (.ift (.cmp .eq (.v 0) (.c (.str "rec"))) (.cons (.ret (.c (.str "kttt")))
    .nil) .nil)
    (.cons (.ift (.cmp .eq (.v 0) (.c (.str "var"))) (.cons (.ret (.c (.str "n")))
    .nil) .nil)
    (.cons (.ift (.cmp .eq (.v 0) (.c (.str "name"))) (.cons (.ret (.c (.str "w")))
    .nil) .nil)
    (.cons (.ret (.c .none))
    .nil))))))))))
/- is_kind_word(word): 0 word -/
def m_is_kind_word : Sms :=
    (.cons (.ret (.cmp .inn (.v 0) (.tup (.cons (.c (.str "nat")) (.cons (.c (.str "none")) (.cons (.c (.str "all")) (.cons (.c (.str "some")) (.cons (.c (.str "same")) .nil))))))))
    .nil)
/- is_number(thing): 0 thing -/
def m_is_number : Sms :=
    (.cons (.ret (.and' (.isi (.v 0) .int) (.and' (.not' (.isi (.v 0) .bool)) (.and' (.cmp .le (.c (.int 0)) (.v 0)) (.cmp .le (.v 0) (.c (.int 99)))))))
    .nil)
/- is_name(thing): 0 thing, 1 sign -/
def m_is_name (c_shape_of : Nat) : Sms :=
    (.cons (.ift (.or' (.not' (.isi (.v 0) .str)) (.or' (.cmp .lt (.bi .len (.cons (.v 0) .nil)) (.c (.int 1))) (.cmp .gt (.bi .len (.cons (.v 0) .nil)) (.c (.int 12))))) (.cons (.ret (.c (.bool false)))
    .nil) .nil)
    (.cons (.ret (.and' (.bi .all (.cons (.comp 1 (.val (.v 0)) .non (.cmp .inn (.v 1) (.c (.str "abcdefghijklmnopqrstuvwxyz")))) .nil)) (.cmp .is (.call c_shape_of (.cons (.v 0) .nil)) (.c .none))))
    .nil))
/- knots_if(thing, want, left): 0 thing, 1 want, 2 left, 3 shape, 4 total, 5 place, 6 part, 7 many -/
def m_knots_if (c_knots_if c_is_number c_is_name c_is_kind_word c_shape_of : Nat) : Sms :=
    (.cons (.ift (.or' (.cmp .eq (.v 2) (.c (.int 0))) (.or' (.not' (.isi (.v 0) .tup)) (.or' (.cmp .eq (.bi .len (.cons (.v 0) .nil)) (.c (.int 0))) (.not' (.isi (.ix (.v 0) (.c (.int 0))) .str))))) (.cons (.ret (.c (.int 0)))
    .nil) .nil)
    (.cons (.asg (.nm 3) (.call c_shape_of (.cons (.ix (.v 0) (.c (.int 0))) .nil)))
    (.cons (.ift (.or' (.cmp .is (.v 3) (.c .none)) (.or' (.cmp .ne (.bi .len (.cons (.v 0) .nil)) (.bin .add (.bi .len (.cons (.v 3) .nil)) (.c (.int 1)))) (.cmp .ne (.call c_is_kind_word (.cons (.ix (.v 0) (.c (.int 0))) .nil)) (.cmp .eq (.v 1) (.c (.str "k")))))) (.cons (.ret (.c (.int 0)))
    .nil) .nil)
    (.cons (.asg (.nm 4) (.c (.int 1)))
    (.cons (.for' (.nm 5) (.rng1 (.bi .len (.cons (.v 3) .nil))) (.cons (.asg (.nm 6) (.ix (.v 0) (.bin .add (.v 5) (.c (.int 1)))))
    (.cons (.asg (.nm 7) (.c (.int 0)))
    (.cons (.ift (.or' (.and' (.cmp .eq (.ix (.v 3) (.v 5)) (.c (.str "n"))) (.not' (.call c_is_number (.cons (.v 6) .nil)))) (.and' (.cmp .eq (.ix (.v 3) (.v 5)) (.c (.str "w"))) (.not' (.call c_is_name (.cons (.v 6) .nil))))) (.cons (.ret (.c (.int 0)))
    .nil) .nil)
    (.cons (.ift (.cmp .inn (.ix (.v 3) (.v 5)) (.c (.str "kt"))) (.cons (.asg (.nm 7) (.call c_knots_if (.cons (.v 6) (.cons (.ix (.v 3) (.v 5)) (.cons (.bin .sub (.v 2) (.c (.int 1))) .nil)))))
    (.cons (.ift (.cmp .eq (.v 7) (.c (.int 0))) (.cons (.ret (.c (.int 0)))
    .nil) .nil)
    .nil)) .nil)
    (.cons (.asg (.nm 4) (.bin .add (.v 4) (.v 7)))
    (.cons (.ift (.cmp .gt (.v 4) (.c (.int 600))) (.cons (.ret (.c (.int 0)))
    .nil) .nil)
    .nil)))))))
    (.cons (.ret (.v 4))
    .nil))))))
/- is_term(thing): 0 thing -/
def m_is_term (c_knots_if : Nat) : Sms :=
    (.cons (.ret (.cmp .gt (.call c_knots_if (.cons (.v 0) (.cons (.c (.str "t")) (.cons (.c (.int 40)) .nil)))) (.c (.int 0))))
    .nil)
/- steps_of(thing, book): 0 thing, 1 book, 2 found, 3 waiting, 4 place, 5 here, 6 rule, 7 kids, 8 number -/
def m_steps_of (c_kids_of c_rule_of : Nat) : Sms :=
    (.cons (.asg (.nm 2) (.lst .nil))
    (.cons (.asg (.nm 3) (.lst (.cons (.tup (.cons (.tup .nil) (.cons (.v 0) .nil))) .nil)))
    (.cons (.while (.cmp .gt (.bi .len (.cons (.v 3) .nil)) (.c (.int 0))) (.cons (.asg (.tp [4, 5]) (.mth .pop0 (.v 3) .nil))
    (.cons (.asg (.nm 6) (.call c_rule_of (.cons (.v 5) (.cons (.v 1) .nil))))
    (.cons (.ift (.cmp .isn (.v 6) (.c .none)) (.cons (.ex (.mth .append (.v 2) (.cons (.tup (.cons (.v 4) (.cons (.v 6) .nil))) .nil)))
    .nil) .nil)
    (.cons (.asg (.nm 7) (.call c_kids_of (.cons (.v 5) .nil)))
    (.cons (.for' (.nm 8) (.revR (.bi .len (.cons (.v 7) .nil))) (.cons (.ex (.mth .append (.v 3) (.cons (.tup (.cons (.bin .add (.v 4) (.tup (.cons (.v 8) .nil))) (.cons (.ix (.v 7) (.v 8)) .nil))) .nil)))
    .nil))
    .nil))))))
    (.cons (.ret (.v 2))
    .nil))))
/- _law_sized(_law_many): 0 _law_many -/
def m_l_sized (c__law_sized : Nat) : Sms :=
    (.cons (.ift (.cmp .eq (.v 0) (.c (.int 1))) (.cons (.ret (.tup (.cons (.c (.str "zero")) .nil)))
    .nil) .nil)
    (.cons (.ift (.cmp .eq (.v 0) (.c (.int 2))) (.cons (.ret (.tup (.cons (.c (.str "next")) (.cons (.tup (.cons (.c (.str "zero")) .nil)) .nil))))
    .nil) .nil)
    (.cons (.ret (.tup (.cons (.c (.str "app")) (.cons (.call c__law_sized (.cons (.bin .fdiv (.bin .sub (.v 0) (.c (.int 1))) (.c (.int 2))) .nil)) (.cons (.call c__law_sized (.cons (.bin .sub (.bin .sub (.v 0) (.c (.int 1))) (.bin .fdiv (.bin .sub (.v 0) (.c (.int 1))) (.c (.int 2)))) .nil)) .nil)))))
    .nil)))
/- _law_wrapped(_law_script, _law_tape, _law_thing_here): 0 _law_script, 1 _law_tape, 2 _law_thing_here, 3 _law_way -/
def m_l_wrapped (c__law_draw : Nat) : Sms :=
    (.cons (.asg (.nm 3) (.call c__law_draw (.cons (.v 0) (.cons (.v 1) (.cons (.c (.int 8)) .nil)))))
    (.cons (.ift (.cmp .inn (.ix (.v 2) (.c (.int 0))) (.tup (.cons (.c (.str "nat")) (.cons (.c (.str "none")) (.cons (.c (.str "all")) (.cons (.c (.str "some")) (.cons (.c (.str "same")) .nil))))))) (.cons (.ret (.ix (.lst (.cons (.tup (.cons (.c (.str "all")) (.cons (.tup (.cons (.c (.str "nat")) .nil)) (.cons (.v 2) .nil)))) (.cons (.tup (.cons (.c (.str "some")) (.cons (.v 2) (.cons (.tup (.cons (.c (.str "nat")) .nil)) .nil)))) (.cons (.tup (.cons (.c (.str "all")) (.cons (.v 2) (.cons (.tup (.cons (.c (.str "nat")) .nil)) .nil)))) .nil)))) (.bin .mod (.v 3) (.c (.int 3)))))
    .nil) .nil)
    (.cons (.ift (.cmp .lt (.v 3) (.c (.int 2))) (.cons (.ret (.ix (.lst (.cons (.tup (.cons (.c (.str "next")) (.cons (.v 2) .nil))) (.cons (.tup (.cons (.c (.str "second")) (.cons (.v 2) .nil))) .nil))) (.v 3)))
    .nil) .nil)
    (.cons (.ift (.cmp .lt (.v 3) (.c (.int 4))) (.cons (.ret (.ix (.lst (.cons (.tup (.cons (.c (.str "app")) (.cons (.v 2) (.cons (.tup (.cons (.c (.str "zero")) .nil)) .nil)))) (.cons (.tup (.cons (.c (.str "app")) (.cons (.tup (.cons (.c (.str "zero")) .nil)) (.cons (.v 2) .nil)))) .nil))) (.bin .sub (.v 3) (.c (.int 2)))))
    .nil) .nil)
    (.cons (.ift (.cmp .lt (.v 3) (.c (.int 6))) (.cons (.ret (.ix (.lst (.cons (.tup (.cons (.c (.str "pair")) (.cons (.tup (.cons (.c (.str "nat")) .nil)) (.cons (.tup (.cons (.c (.str "zero")) .nil)) (.cons (.v 2) .nil))))) (.cons (.tup (.cons (.c (.str "fun")) (.cons (.tup (.cons (.c (.str "nat")) .nil)) (.cons (.v 2) .nil)))) .nil))) (.bin .sub (.v 3) (.c (.int 4)))))
    .nil) .nil)
    (.cons (.ret (.ix (.lst (.cons (.tup (.cons (.c (.str "like")) (.cons (.tup (.cons (.c (.str "nat")) .nil)) (.cons (.v 2) .nil)))) (.cons (.tup (.cons (.c (.str "rec")) (.cons (.tup (.cons (.c (.str "nat")) .nil)) (.cons (.v 2) (.cons (.tup (.cons (.c (.str "zero")) .nil)) (.cons (.tup (.cons (.c (.str "zero")) .nil)) .nil)))))) .nil))) (.bin .sub (.v 3) (.c (.int 6)))))
    .nil))))))
/- _law_under(_law_script, _law_tape, _law_thing_here): 0 _law_script, 1 _law_tape, 2 _law_thing_here, 3 _law_many, 4 _law_k -/
def m_l_under (c__law_great c__law_measured c__law_wrapped c__law_draw : Nat) : Sms :=
    (.cons (.ift (.cmp .gt (.call c__law_draw (.cons (.v 0) (.cons (.v 1) (.cons (.c (.int 5)) .nil)))) (.c (.int 0))) (.cons (.ret (.v 2))
    .nil) .nil)
    (.cons (.asg (.nm 3) (.call c__law_draw (.cons (.v 0) (.cons (.v 1) (.cons (.c (.int 40)) .nil)))))
    (.cons (.for' (.nm 4) (.rng1 (.bin .sub (.v 3) (.ix (.call c__law_measured (.cons (.v 2) .nil)) (.c (.int 1))))) (.cons (.asg (.nm 2) (.call c__law_wrapped (.cons (.v 0) (.cons (.v 1) (.cons (.v 2) .nil)))))
    .nil))
    (.cons (.ift (.call c__law_great (.cons (.v 2) .nil)) (.cons (.ret (.tup (.cons (.c (.str "zero")) .nil)))
    .nil) .nil)
    (.cons (.ret (.v 2))
    .nil)))))
/- _law_pairs(_law_found, _law_due_here): 0 _law_found, 1 _law_due_here, 2 _law_k, 3 _law_pair_here, 4 _law_number_here -/
def m_l_pairs : Sms :=
    (.cons (.ift (.or' (.not' (.isi (.v 0) .lst)) (.cmp .ne (.bi .len (.cons (.v 0) .nil)) (.bi .len (.cons (.v 1) .nil)))) (.cons (.ret (.c (.bool false)))
    .nil) .nil)
    (.cons (.for' (.nm 2) (.rng1 (.bi .len (.cons (.v 1) .nil))) (.cons (.asg (.nm 3) (.ix (.v 0) (.v 2)))
    (.cons (.ift (.or' (.not' (.isi (.v 3) .tup)) (.or' (.cmp .ne (.bi .len (.cons (.v 3) .nil)) (.c (.int 2))) (.not' (.isi (.ix (.v 3) (.c (.int 0))) .tup)))) (.cons (.ret (.c (.bool false)))
    .nil) .nil)
    (.cons (.for' (.nm 4) (.val (.ix (.v 3) (.c (.int 0)))) (.cons (.ift (.or' (.not' (.isi (.v 4) .int)) (.isi (.v 4) .bool)) (.cons (.ret (.c (.bool false)))
    .nil) .nil)
    .nil))
    (.cons (.ift (.or' (.not' (.isi (.ix (.v 3) (.c (.int 1))) .str)) (.cmp .ne (.v 3) (.ix (.v 1) (.v 2)))) (.cons (.ret (.c (.bool false)))
    .nil) .nil)
    .nil)))))
    (.cons (.ret (.c (.bool true)))
    .nil)))
/- _law_due(_law_thing_here, _law_book_here): 0 _law_thing_here, 1 _law_book_here, 2 _law_row -/
def m_l_due_v2 (c__law_rows : Nat) : Sms :=
    (.cons (.ret (.comp 2 (.val (.call c__law_rows (.cons (.v 0) (.cons (.v 1) .nil)))) (.one (.cmp .isn (.ix (.v 2) (.c (.int 2))) (.c .none))) (.tup (.cons (.ix (.v 2) (.c (.int 0))) (.cons (.ix (.v 2) (.c (.int 2))) .nil)))))
    .nil)
/- law(_law_script): 0 _law_script, 1 _law_tape, 2 _law_pool_here, 3 _law_near, 4 _law_books, 5 _law_thing_here, 6 _law_told, 7 _law_handed, 8 _law_first, 9 _law_second, 10 _law_kept, 11 _law_book_here -/
def m_law_v6 (c__law_pairs c__law_due c_steps_of c__law_draw c_is_term c__law_sized c__law_measured c__law_under c__law_thing c__law_book c__law_pool : Nat) : Sms :=
    (.cons (.asg (.nm 1) (.lst (.cons (.c (.int 0)) .nil)))
    (.cons (.asg (.nm 2) (.call c__law_pool (.cons (.v 0) (.cons (.v 1) .nil))))
    (.cons (.asg (.nm 3) (.ix (.lst (.cons (.c (.int 0)) (.cons (.c (.int 3)) (.cons (.c (.int 90)) .nil)))) (.call c__law_draw (.cons (.v 0) (.cons (.v 1) (.cons (.c (.int 3)) .nil))))))
    (.cons (.asg (.nm 4) (.lst (.cons (.call c__law_book (.cons (.v 0) (.cons (.v 1) (.cons (.v 2) .nil)))) (.cons (.call c__law_book (.cons (.v 0) (.cons (.v 1) (.cons (.v 2) .nil)))) .nil))))
    (.cons (.asg (.nm 5) (.call c__law_thing (.cons (.v 0) (.cons (.v 1) (.cons (.bin .add (.c (.int 1)) (.call c__law_draw (.cons (.v 0) (.cons (.v 1) (.cons (.c (.int 5)) .nil))))) (.cons (.v 3) (.cons (.v 2) .nil)))))))
    (.cons (.asg (.nm 5) (.call c__law_under (.cons (.v 0) (.cons (.v 1) (.cons (.v 5) .nil)))))
    (.cons (.asg (.nm 6) (.call c__law_measured (.cons (.v 5) .nil)))
    (.cons (.ift (.and' (.cmp .eq (.call c__law_draw (.cons (.v 0) (.cons (.v 1) (.cons (.c (.int 8)) .nil)))) (.c (.int 0))) (.and' (.call c_is_term (.cons (.v 5) .nil)) (.and' (.cmp .lt (.ix (.v 6) (.c (.int 0))) (.c (.int 250))) (.cmp .lt (.ix (.v 6) (.c (.int 1))) (.c (.int 40)))))) (.cons (.asg (.nm 5) (.ix (.lst (.cons (.tup (.cons (.c (.str "app")) (.cons (.v 5) (.cons (.call c__law_sized (.cons (.c (.int 300)) .nil)) .nil)))) (.cons (.tup (.cons (.c (.str "app")) (.cons (.call c__law_sized (.cons (.c (.int 300)) .nil)) (.cons (.v 5) .nil)))) .nil))) (.call c__law_draw (.cons (.v 0) (.cons (.v 1) (.cons (.c (.int 2)) .nil))))))
    .nil) .nil)
    (.cons (.asg (.nm 7) (.comp 11 (.val (.v 4)) .non (.bi .dict (.cons (.v 11) .nil))))
    (.cons (.asg (.nm 8) (.call c_steps_of (.cons (.v 5) (.cons (.ix (.v 7) (.c (.int 0))) .nil))))
    (.cons (.ift (.not' (.call c__law_pairs (.cons (.v 8) (.cons (.call c__law_due (.cons (.v 5) (.cons (.ix (.v 4) (.c (.int 0))) .nil))) .nil)))) (.cons (.ret (.c (.bool false)))
    .nil) .nil)
    (.cons (.asg (.nm 9) (.call c_steps_of (.cons (.v 5) (.cons (.ix (.v 7) (.c (.int 1))) .nil))))
    (.cons (.asg (.nm 10) (.bi .lst (.cons (.v 9) .nil)))
    (.cons (.ift (.not' (.call c__law_pairs (.cons (.v 9) (.cons (.call c__law_due (.cons (.v 5) (.cons (.ix (.v 4) (.c (.int 1))) .nil))) .nil)))) (.cons (.ret (.c (.bool false)))
    .nil) .nil)
    (.cons (.ex (.mth .append (.v 8) (.cons (.tup (.cons (.tup .nil) (.cons (.c (.str "fun")) .nil))) .nil)))
    (.cons (.ex (.mth .reverse (.v 8) .nil))
    (.cons (.ift (.not' (.call c__law_pairs (.cons (.call c_steps_of (.cons (.v 5) (.cons (.ix (.v 7) (.c (.int 0))) .nil))) (.cons (.call c__law_due (.cons (.v 5) (.cons (.ix (.v 4) (.c (.int 0))) .nil))) .nil)))) (.cons (.ret (.c (.bool false)))
    .nil) .nil)
    (.cons (.ret (.and' (.call c__law_pairs (.cons (.v 9) (.cons (.v 10) .nil))) (.cmp .eq (.v 7) (.v 4))))
    .nil))))))))))))))))))
/- with_kids(thing, kids): 0 thing, 1 kids -/
def m_with_kids (c_bounded c_made_plain : Nat) : Sms :=
    (.cons (.ret (.call c_bounded (.cons (.call c_made_plain (.cons (.v 0) (.cons (.v 1) .nil))) .nil)))
    .nil)
/- changed_at(thing, place, new): 0 thing, 1 place, 2 new, 3 kids -/
def m_changed_at (c_made_plain c_changed_at c_kid_at c_kids_of : Nat) : Sms :=
    (.cons (.ift (.cmp .eq (.v 1) (.tup .nil)) (.cons (.ret (.v 2))
    .nil) .nil)
    (.cons (.asg (.nm 3) (.call c_kids_of (.cons (.v 0) .nil)))
    (.cons (.setI (.v 3) (.ix (.v 1) (.c (.int 0))) (.call c_changed_at (.cons (.call c_kid_at (.cons (.v 0) (.cons (.ix (.v 1) (.c (.int 0))) .nil))) (.cons (.sl (.v 1) (.one (.c (.int 1))) .non) (.cons (.v 2) .nil)))))
    (.cons (.ret (.call c_made_plain (.cons (.v 0) (.cons (.v 3) .nil))))
    .nil))))
/- with_at(thing, place, new): 0 thing, 1 place, 2 new -/
def m_with_at (c_bounded c_changed_at c_at_place : Nat) : Sms :=
    (.cons (.ex (.call c_at_place (.cons (.v 0) (.cons (.v 1) .nil))))
    (.cons (.ret (.call c_bounded (.cons (.call c_changed_at (.cons (.v 0) (.cons (.v 1) (.cons (.v 2) .nil)))) .nil)))
    .nil))
/- one_more(thing): 0 thing, 1 lesser, 2 below, 3 head -/
def m_one_more (c_with_kids : Nat) : Sms :=
    (.cons (.asg (.nm 1) (.ix (.ix (.v 0) (.c (.int 4))) (.c (.int 1))))
    (.cons (.asg (.nm 2) (.tup (.cons (.c (.str "rec")) (.cons (.ix (.v 0) (.c (.int 1))) (.cons (.ix (.v 0) (.c (.int 2))) (.cons (.ix (.v 0) (.c (.int 3))) (.cons (.v 1) .nil)))))))
    (.cons (.asg (.nm 3) (.tup (.cons (.c (.str "app")) (.cons (.ix (.v 0) (.c (.int 3))) (.cons (.v 1) .nil)))))
    (.cons (.ret (.call c_with_kids (.cons (.v 3) (.cons (.lst (.cons (.v 3) (.cons (.v 2) .nil))) .nil))))
    .nil))))
/- turned(thing, rule, book): 0 thing, 1 rule, 2 book -/
def m_turned (c_one_more c_put_in : Nat) : Sms :=
    (.cons (.ift (.cmp .eq (.v 1) (.c (.str "fun"))) (.cons (.ret (.call c_put_in (.cons (.ix (.ix (.v 0) (.c (.int 1))) (.c (.int 2))) (.cons (.ix (.v 0) (.c (.int 2))) (.cons (.c (.int 0)) .nil)))))
    .nil) .nil)
    (.cons (.ift (.cmp .eq (.v 1) (.c (.str "next"))) (.cons (.ret (.call c_one_more (.cons (.v 0) .nil)))
    .nil) .nil)
    (.cons (.ift (.cmp .eq (.v 1) (.c (.str "name"))) (.cons (.ret (.ix (.ix (.v 2) (.ix (.v 0) (.c (.int 1)))) (.c (.int 1))))
    .nil) .nil)
    (.cons (.ift (.cmp .eq (.v 1) (.c (.str "first"))) (.cons (.ret (.ix (.ix (.v 0) (.c (.int 1))) (.c (.int 2))))
    .nil) .nil)
    (.cons (.ift (.cmp .eq (.v 1) (.c (.str "second"))) (.cons (.ret (.ix (.ix (.v 0) (.c (.int 1))) (.c (.int 3))))
    .nil) .nil)
    (.cons (.ret (.ix (.v 0) (.c (.int 2))))
    .nil))))))
/- stepped(thing, place, book): 0 thing, 1 place, 2 book, 3 here, 4 rule -/
def m_stepped (c_with_at c_turned c_rule_of c_at_place x_NoStep : Nat) : Sms :=
    (.cons (.asg (.nm 3) (.call c_at_place (.cons (.v 0) (.cons (.v 1) .nil))))
    (.cons (.asg (.nm 4) (.call c_rule_of (.cons (.v 3) (.cons (.v 2) .nil))))
    (.cons (.ift (.cmp .is (.v 4) (.c .none)) (.cons (.raise x_NoStep)
    .nil) .nil)
    (.cons (.ret (.call c_with_at (.cons (.v 0) (.cons (.v 1) (.cons (.call c_turned (.cons (.v 3) (.cons (.v 4) (.cons (.v 2) .nil)))) .nil)))))
    .nil))))
/- first_step(thing, book): 0 thing, 1 book, 2 waiting, 3 place, 4 here, 5 rule, 6 kids, 7 number -/
def m_first_step (c_kids_of c_rule_of : Nat) : Sms :=
    (.cons (.asg (.nm 2) (.lst (.cons (.tup (.cons (.tup .nil) (.cons (.v 0) .nil))) .nil)))
    (.cons (.while (.cmp .gt (.bi .len (.cons (.v 2) .nil)) (.c (.int 0))) (.cons (.asg (.tp [3, 4]) (.mth .pop0 (.v 2) .nil))
    (.cons (.asg (.nm 5) (.call c_rule_of (.cons (.v 4) (.cons (.v 1) .nil))))
    (.cons (.ift (.cmp .isn (.v 5) (.c .none)) (.cons (.ret (.tup (.cons (.v 3) (.cons (.v 5) .nil))))
    .nil) .nil)
    (.cons (.asg (.nm 6) (.call c_kids_of (.cons (.v 4) .nil)))
    (.cons (.for' (.nm 7) (.revR (.bi .len (.cons (.v 6) .nil))) (.cons (.ex (.mth .append (.v 2) (.cons (.tup (.cons (.bin .add (.v 3) (.tup (.cons (.v 7) .nil))) (.cons (.ix (.v 6) (.v 7)) .nil))) .nil)))
    .nil))
    .nil))))))
    (.cons (.ret (.c .none))
    .nil)))
/- normal(thing, fuel, book): 0 thing, 1 fuel, 2 book, 3 log, 4 row -/
def m_normal (c_first_step c_stepped x_Dry : Nat) : Sms :=
    (.cons (.asg (.nm 3) (.lst .nil))
    (.cons (.asg (.nm 4) (.call c_first_step (.cons (.v 0) (.cons (.v 2) .nil))))
    (.cons (.while (.cmp .isn (.v 4) (.c .none)) (.cons (.ift (.cmp .eq (.bi .len (.cons (.v 3) .nil)) (.v 1)) (.cons (.raise x_Dry)
    .nil) .nil)
    (.cons (.asg (.nm 0) (.call c_stepped (.cons (.v 0) (.cons (.ix (.v 4) (.c (.int 0))) (.cons (.v 2) .nil)))))
    (.cons (.ex (.mth .append (.v 3) (.cons (.v 4) .nil)))
    (.cons (.asg (.nm 4) (.call c_first_step (.cons (.v 0) (.cons (.v 2) .nil))))
    .nil)))))
    (.cons (.ret (.tup (.cons (.v 0) (.cons (.v 3) .nil))))
    .nil))))
/- _law_named(_law_word_here): 0 _law_word_here -/
def m_l_named_v2 : Sms :=
    (.cons (.ift (.cmp .inn (.v 0) (.tup (.cons (.c (.str "nat")) (.cons (.c (.str "none")) (.cons (.c (.str "all")) (.cons (.c (.str "some")) (.cons (.c (.str "same")) (.cons (.c (.str "var")) (.cons (.c (.str "fun")) (.cons (.c (.str "app")) (.cons (.c (.str "zero")) (.cons (.c (.str "next")) (.cons (.c (.str "rec")) (.cons (.c (.str "like")) (.cons (.c (.str "carry")) .nil))))))))))))))) (.cons (.ret (.bin .add (.sl (.v 0) .non (.one (.neg (.c (.int 1))))) (.c (.str "q"))))
    .nil) .nil)
    (.cons (.ift (.cmp .inn (.v 0) (.tup (.cons (.c (.str "never")) (.cons (.c (.str "pair")) (.cons (.c (.str "first")) (.cons (.c (.str "second")) (.cons (.c (.str "name")) .nil))))))) (.cons (.ret (.bin .add (.sl (.v 0) .non (.one (.neg (.c (.int 1))))) (.c (.str "q"))))
    .nil) .nil)
    (.cons (.ret (.v 0))
    .nil)))
/- _law_word(_law_e): 0 _law_e, 1 _law_found, 2 _law_later -/
def m_l_word_v2 (p0 q0 p1 q1 p2 q2 p3 q3 p4 q4 p5 q5 : List Nat) : Sms :=
    (.cons (.asg (.nm 1) (.lst (.cons (.isx (.v 0) p5 q5) (.cons (.isx (.v 0) p4 q4) (.cons (.isx (.v 0) p3 q3) (.cons (.isx (.v 0) p2 q2) .nil))))))
    (.cons (.asg (.nm 2) (.isx (.v 0) p1 q1))
    (.cons (.ift (.or' (.v 2) (.or' (.not' (.isx (.v 0) p0 q0)) (.cmp .ne (.mth .count (.v 1) (.cons (.c (.bool true)) .nil)) (.c (.int 1))))) (.cons (.ret (.c (.str "other")))
    .nil) .nil)
    (.cons (.ret (.ix (.lst (.cons (.c (.str "great")) (.cons (.c (.str "place")) (.cons (.c (.str "step")) (.cons (.c (.str "dry")) .nil))))) (.mth .index (.v 1) (.cons (.c (.bool true)) .nil))))
    .nil))))
/- _law_chain(_law_many, _law_book_here): 0 _law_many, 1 _law_book_here, 2 _law_letters, 3 _law_k, 4 _law_after, 5 _law_word_here -/
def m_l_chain : Sms :=
    (.cons (.asg (.nm 2) (.c (.str "abcdefghijklmnopqrstuvwxyz")))
    (.cons (.for' (.nm 3) (.rng1 (.v 0)) (.cons (.asg (.nm 4) (.bin .add (.v 3) (.c (.int 1))))
    (.cons (.asg (.nm 5) (.bin .add (.bin .add (.c (.str "q")) (.ix (.v 2) (.bin .fdiv (.v 3) (.c (.int 26))))) (.ix (.v 2) (.bin .mod (.v 3) (.c (.int 26))))))
    (.cons (.setI (.v 1) (.v 5) (.tup (.cons (.tup (.cons (.c (.str "nat")) .nil)) (.cons (.tup (.cons (.c (.str "name")) (.cons (.bin .add (.bin .add (.c (.str "q")) (.ix (.v 2) (.bin .fdiv (.v 4) (.c (.int 26))))) (.ix (.v 2) (.bin .mod (.v 4) (.c (.int 26))))) .nil))) .nil))))
    .nil))))
    (.cons (.ret (.bin .add (.bin .add (.c (.str "q")) (.ix (.v 2) (.bin .fdiv (.v 0) (.c (.int 26))))) (.ix (.v 2) (.bin .mod (.v 0) (.c (.int 26))))))
    .nil)))
/- _law_sum(_law_script, _law_tape): 0 _law_script, 1 _law_tape, 2 _law_one, 3 _law_k, 4 _law_two, 5 _law_more -/
def m_l_sum (c__law_draw : Nat) : Sms :=
    (.cons (.asg (.nm 2) (.tup (.cons (.c (.str "zero")) .nil)))
    (.cons (.for' (.nm 3) (.rng1 (.call c__law_draw (.cons (.v 0) (.cons (.v 1) (.cons (.c (.int 5)) .nil))))) (.cons (.asg (.nm 2) (.tup (.cons (.c (.str "next")) (.cons (.v 2) .nil))))
    .nil))
    (.cons (.asg (.nm 4) (.tup (.cons (.c (.str "zero")) .nil)))
    (.cons (.for' (.nm 3) (.rng1 (.call c__law_draw (.cons (.v 0) (.cons (.v 1) (.cons (.c (.int 5)) .nil))))) (.cons (.asg (.nm 4) (.tup (.cons (.c (.str "next")) (.cons (.v 4) .nil))))
    .nil))
    (.cons (.asg (.nm 5) (.tup (.cons (.c (.str "fun")) (.cons (.tup (.cons (.c (.str "nat")) .nil)) (.cons (.tup (.cons (.c (.str "fun")) (.cons (.tup (.cons (.c (.str "nat")) .nil)) (.cons (.tup (.cons (.c (.str "next")) (.cons (.tup (.cons (.c (.str "var")) (.cons (.c (.int 0)) .nil))) .nil))) .nil)))) .nil)))))
    (.cons (.ret (.tup (.cons (.c (.str "rec")) (.cons (.tup (.cons (.c (.str "nat")) .nil)) (.cons (.v 4) (.cons (.v 5) (.cons (.v 2) .nil)))))))
    .nil))))))
/- _law_due(_law_thing_here, _law_fuel, _law_book_here): 0 _law_thing_here, 1 _law_fuel, 2 _law_book_here, 3 _law_log, 4 _law_rows_here, 5 _law_row -/
def m_l_due_v3 (c_stepped c__law_rows : Nat) (y_Great n_Great : List Nat) : Sms :=
    (.cons (.asg (.nm 3) (.lst .nil))
    (.cons (.while (.c (.bool true)) (.cons (.asg (.nm 4) (.comp 5 (.val (.call c__law_rows (.cons (.v 0) (.cons (.v 2) .nil)))) (.one (.cmp .isn (.ix (.v 5) (.c (.int 2))) (.c .none))) (.v 5)))
    (.cons (.ift (.cmp .eq (.v 4) (.lst .nil)) (.cons (.ret (.tup (.cons (.c (.str "thing")) (.cons (.v 0) (.cons (.v 3) .nil)))))
    .nil) .nil)
    (.cons (.ift (.cmp .eq (.bi .len (.cons (.v 3) .nil)) (.v 1)) (.cons (.ret (.tup (.cons (.c (.str "dry")) (.cons (.v 0) (.cons (.v 3) .nil)))))
    .nil) .nil)
    (.cons (.tryM (.cons (.asg (.nm 0) (.call c_stepped (.cons (.v 0) (.cons (.ix (.ix (.v 4) (.c (.int 0))) (.c (.int 0))) (.cons (.v 2) .nil)))))
    .nil) (.cons y_Great n_Great (.cons (.ret (.tup (.cons (.c (.str "great")) (.cons (.v 0) (.cons (.v 3) .nil)))))
    .nil)
    .nil))
    (.cons (.ex (.mth .append (.v 3) (.cons (.tup (.cons (.ix (.ix (.v 4) (.c (.int 0))) (.c (.int 0))) (.cons (.ix (.ix (.v 4) (.c (.int 0))) (.c (.int 2))) .nil))) .nil)))
    .nil))))))
    .nil))
/- _law_told(_law_thing_here, _law_fuel, _law_book_here): 0 _law_thing_here, 1 _law_fuel, 2 _law_book_here, 3 _law_found, 4 _law_e -/
def m_l_told_v8 (c_normal c__law_word : Nat) (y_KeeperError n_KeeperError : List Nat) : Sms :=
    (.cons (.tryA (.cons (.asg (.nm 3) (.call c_normal (.cons (.v 0) (.cons (.v 1) (.cons (.v 2) .nil)))))
    .nil) y_KeeperError n_KeeperError 4 (.cons (.ret (.tup (.cons (.call c__law_word (.cons (.v 4) .nil)) (.cons (.v 0) (.cons (.lst .nil) .nil)))))
    .nil))
    (.cons (.ift (.or' (.not' (.isi (.v 3) .tup)) (.or' (.cmp .ne (.bi .len (.cons (.v 3) .nil)) (.c (.int 2))) (.not' (.isi (.ix (.v 3) (.c (.int 1))) .lst)))) (.cons (.ret (.tup (.cons (.c (.str "other")) (.cons (.v 0) (.cons (.lst .nil) .nil)))))
    .nil) .nil)
    (.cons (.ret (.tup (.cons (.c (.str "thing")) (.cons (.ix (.v 3) (.c (.int 0))) (.cons (.ix (.v 3) (.c (.int 1))) .nil)))))
    .nil)))
/- _law_same(_law_found, _law_due_here): 0 _law_found, 1 _law_due_here -/
def m_l_same : Sms :=
    (.cons (.ift (.cmp .ne (.ix (.v 0) (.c (.int 0))) (.ix (.v 1) (.c (.int 0)))) (.cons (.ret (.c (.bool false)))
    .nil) .nil)
    (.cons (.ret (.or' (.cmp .ne (.ix (.v 0) (.c (.int 0))) (.c (.str "thing"))) (.and' (.cmp .eq (.ix (.v 0) (.c (.int 1))) (.ix (.v 1) (.c (.int 1)))) (.cmp .eq (.ix (.v 0) (.c (.int 2))) (.ix (.v 1) (.c (.int 2)))))))
    .nil))
/- law(_law_script): 0 _law_script, 1 _law_tape, 2 _law_pool_here, 3 _law_book_here, 4 _law_thing_here, 5 _law_fuel, 6 _law_due_here, 7 _law_handed, 8 _law_found, 9 _law_second, 10 _law_kept, 11 _law_many -/
def m_law_v7 (c__law_same c__law_told c__law_draw c__law_due c__law_chain c__law_sum c__law_under c__law_measured c__law_thing c__law_book c__law_pool : Nat) : Sms :=
    (.cons (.asg (.nm 1) (.lst (.cons (.c (.int 0)) .nil)))
    (.cons (.asg (.nm 2) (.call c__law_pool (.cons (.v 0) (.cons (.v 1) .nil))))
    (.cons (.asg (.nm 3) (.call c__law_book (.cons (.v 0) (.cons (.v 1) (.cons (.v 2) .nil)))))
    (.cons (.asg (.nm 4) (.call c__law_thing (.cons (.v 0) (.cons (.v 1) (.cons (.bin .add (.c (.int 1)) (.call c__law_draw (.cons (.v 0) (.cons (.v 1) (.cons (.c (.int 5)) .nil))))) (.cons (.ix (.lst (.cons (.c (.int 0)) (.cons (.c (.int 3)) (.cons (.c (.int 90)) .nil)))) (.call c__law_draw (.cons (.v 0) (.cons (.v 1) (.cons (.c (.int 3)) .nil))))) (.cons (.v 2) .nil)))))))
    (.cons (.asg (.nm 5) (.call c__law_draw (.cons (.v 0) (.cons (.v 1) (.cons (.c (.int 13)) .nil)))))
    (.cons (.ift (.and' (.cmp .eq (.call c__law_draw (.cons (.v 0) (.cons (.v 1) (.cons (.c (.int 3)) .nil)))) (.c (.int 0))) (.cmp .lt (.ix (.call c__law_measured (.cons (.v 4) .nil)) (.c (.int 0))) (.c (.int 30)))) (.cons (.asg (.nm 5) (.call c__law_draw (.cons (.v 0) (.cons (.v 1) (.cons (.c (.int 61)) .nil)))))
    .nil) .nil)
    (.cons (.asg (.nm 4) (.call c__law_under (.cons (.v 0) (.cons (.v 1) (.cons (.v 4) .nil)))))
    (.cons (.ift (.cmp .eq (.call c__law_draw (.cons (.v 0) (.cons (.v 1) (.cons (.c (.int 4)) .nil)))) (.c (.int 0))) (.cons (.asg (.nm 4) (.call c__law_sum (.cons (.v 0) (.cons (.v 1) .nil))))
    (.cons (.asg (.nm 5) (.c (.int 60)))
    .nil)) .nil)
    (.cons (.ift (.cmp .eq (.call c__law_draw (.cons (.v 0) (.cons (.v 1) (.cons (.c (.int 7)) .nil)))) (.c (.int 0))) (.cons (.asg (.nm 11) (.bin .add (.call c__law_draw (.cons (.v 0) (.cons (.v 1) (.cons (.c (.int 130)) .nil)))) (.bin .mul (.c (.int 300)) (.bi .int (.cons (.cmp .eq (.call c__law_draw (.cons (.v 0) (.cons (.v 1) (.cons (.c (.int 5)) .nil)))) (.c (.int 0))) .nil)))))
    (.cons (.setI (.v 3) (.call c__law_chain (.cons (.v 11) (.cons (.v 3) .nil))) (.tup (.cons (.tup (.cons (.c (.str "nat")) .nil)) (.cons (.tup (.cons (.c (.str "zero")) .nil)) .nil))))
    (.cons (.asg (.nm 4) (.tup (.cons (.c (.str "name")) (.cons (.c (.str "qaa")) .nil))))
    (.cons (.asg (.nm 5) (.c (.int 500)))
    .nil)))) .nil)
    (.cons (.asg (.nm 6) (.call c__law_due (.cons (.v 4) (.cons (.v 5) (.cons (.v 3) .nil)))))
    (.cons (.ift (.and' (.cmp .eq (.call c__law_draw (.cons (.v 0) (.cons (.v 1) (.cons (.c (.int 4)) .nil)))) (.c (.int 0))) (.cmp .eq (.ix (.v 6) (.c (.int 0))) (.c (.str "thing")))) (.cons (.asg (.nm 5) (.bi .max2 (.cons (.c (.int 0)) (.cons (.bin .sub (.bi .len (.cons (.ix (.v 6) (.c (.int 2))) .nil)) (.call c__law_draw (.cons (.v 0) (.cons (.v 1) (.cons (.c (.int 2)) .nil))))) .nil))))
    (.cons (.asg (.nm 6) (.call c__law_due (.cons (.v 4) (.cons (.v 5) (.cons (.v 3) .nil)))))
    .nil)) .nil)
    (.cons (.asg (.nm 7) (.bi .dict (.cons (.v 3) .nil)))
    (.cons (.asg (.nm 8) (.call c__law_told (.cons (.v 4) (.cons (.v 5) (.cons (.v 7) .nil)))))
    (.cons (.ift (.or' (.not' (.call c__law_same (.cons (.v 8) (.cons (.v 6) .nil)))) (.cmp .ne (.v 7) (.v 3))) (.cons (.ret (.c (.bool false)))
    .nil) .nil)
    (.cons (.ex (.mth .append (.ix (.v 8) (.c (.int 2))) (.cons (.tup (.cons (.tup .nil) (.cons (.c (.str "fun")) .nil))) .nil)))
    (.cons (.asg (.nm 9) (.call c__law_told (.cons (.v 4) (.cons (.v 5) (.cons (.v 7) .nil)))))
    (.cons (.asg (.nm 10) (.bi .lst (.cons (.ix (.v 9) (.c (.int 2))) .nil)))
    (.cons (.ex (.call c__law_told (.cons (.tup (.cons (.c (.str "first")) (.cons (.tup (.cons (.c (.str "pair")) (.cons (.tup (.cons (.c (.str "nat")) .nil)) (.cons (.tup (.cons (.c (.str "zero")) .nil)) (.cons (.tup (.cons (.c (.str "zero")) .nil)) .nil))))) .nil))) (.cons (.c (.int 3)) (.cons (.v 7) .nil)))))
    (.cons (.ret (.and' (.call c__law_same (.cons (.v 9) (.cons (.v 6) .nil))) (.cmp .eq (.ix (.v 9) (.c (.int 2))) (.v 10))))
    .nil)))))))))))))))))))
/- walked(thing, log, book): 0 thing, 1 log, 2 book, 3 place, 4 rule -/
def m_walked (c_stepped c_rule_of c_at_place x_NoStep : Nat) : Sms :=
    (.cons (.for' (.tp [3, 4]) (.val (.v 1)) (.cons (.ift (.cmp .ne (.call c_rule_of (.cons (.call c_at_place (.cons (.v 0) (.cons (.v 3) .nil))) (.cons (.v 2) .nil))) (.v 4)) (.cons (.raise x_NoStep)
    .nil) .nil)
    (.cons (.asg (.nm 0) (.call c_stepped (.cons (.v 0) (.cons (.v 3) (.cons (.v 2) .nil)))))
    .nil)))
    (.cons (.ret (.v 0))
    .nil))
/- _law_log(_law_script, _law_tape, _law_thing_here, _law_book_here): 0 _law_script, 1 _law_tape, 2 _law_thing_here, 3 _law_book_here, 4 _law_log_here, 5 _law_k, 6 _law_able, 7 _law_row -/
def m_l_log (c__law_draw c_stepped c__law_rows : Nat) (y_Great n_Great : List Nat) : Sms :=
    (.cons (.asg (.nm 4) (.lst .nil))
    (.cons (.for' (.nm 5) (.rng1 (.call c__law_draw (.cons (.v 0) (.cons (.v 1) (.cons (.c (.int 7)) .nil))))) (.cons (.asg (.nm 6) (.comp 7 (.val (.call c__law_rows (.cons (.v 2) (.cons (.v 3) .nil)))) (.one (.cmp .isn (.ix (.v 7) (.c (.int 2))) (.c .none))) (.v 7)))
    (.cons (.ift (.cmp .eq (.v 6) (.lst .nil)) (.cons (.ret (.v 4))
    .nil) .nil)
    (.cons (.asg (.nm 7) (.ix (.v 6) (.bin .mod (.call c__law_draw (.cons (.v 0) (.cons (.v 1) (.cons (.c (.int 1000)) .nil)))) (.bi .len (.cons (.v 6) .nil)))))
    (.cons (.ex (.mth .append (.v 4) (.cons (.tup (.cons (.ix (.v 7) (.c (.int 0))) (.cons (.ix (.v 7) (.c (.int 2))) .nil))) .nil)))
    (.cons (.tryM (.cons (.asg (.nm 2) (.call c_stepped (.cons (.v 2) (.cons (.ix (.v 7) (.c (.int 0))) (.cons (.v 3) .nil)))))
    .nil) (.cons y_Great n_Great (.cons (.ret (.v 4))
    .nil)
    .nil))
    .nil))))))
    (.cons (.ret (.v 4))
    .nil)))
/- _law_spoilt(_law_script, _law_tape, _law_log_here, _law_rows_here): 0 _law_script, 1 _law_tape, 2 _law_log_here, 3 _law_rows_here, 4 _law_at, 5 _law_way, 6 _law_words, 7 _law_other, 8 _law_word_here, 9 _law_row -/
def m_l_spoilt_v2 (c__law_draw : Nat) : Sms :=
    (.cons (.asg (.nm 4) (.bin .mod (.call c__law_draw (.cons (.v 0) (.cons (.v 1) (.cons (.c (.int 1000)) .nil)))) (.bin .add (.bi .len (.cons (.v 2) .nil)) (.c (.int 1)))))
    (.cons (.asg (.nm 5) (.call c__law_draw (.cons (.v 0) (.cons (.v 1) (.cons (.c (.int 9)) .nil)))))
    (.cons (.asg (.nm 6) (.lst (.cons (.c (.str "fun")) (.cons (.c (.str "zero")) (.cons (.c (.str "next")) (.cons (.c (.str "like")) (.cons (.c (.str "first")) (.cons (.c (.str "second")) (.cons (.c (.str "name")) (.cons (.c (.str "none")) (.cons (.c (.str "")) .nil)))))))))))
    (.cons (.asg (.nm 7) (.ix (.v 3) (.bin .mod (.call c__law_draw (.cons (.v 0) (.cons (.v 1) (.cons (.c (.int 1000)) .nil)))) (.bi .len (.cons (.v 3) .nil)))))
    (.cons (.asg (.nm 8) (.ix (.v 6) (.call c__law_draw (.cons (.v 0) (.cons (.v 1) (.cons (.c (.int 9)) .nil))))))
    (.cons (.ift (.cmp .eq (.v 5) (.c (.int 0))) (.cons (.ret (.bin .add (.bin .add (.sl (.v 2) .non (.one (.v 4))) (.lst (.cons (.tup (.cons (.ix (.v 7) (.c (.int 0))) (.cons (.v 8) .nil))) .nil))) (.sl (.v 2) (.one (.v 4)) .non)))
    .nil) .nil)
    (.cons (.ift (.or' (.cmp .gt (.v 5) (.c (.int 5))) (.cmp .eq (.v 4) (.bi .len (.cons (.v 2) .nil)))) (.cons (.ret (.v 2))
    .nil) .nil)
    (.cons (.asg (.nm 9) (.ix (.v 2) (.v 4)))
    (.cons (.ift (.cmp .eq (.v 5) (.c (.int 1))) (.cons (.ret (.bin .add (.bin .add (.sl (.v 2) .non (.one (.v 4))) (.lst (.cons (.tup (.cons (.ix (.v 9) (.c (.int 0))) (.cons (.v 8) .nil))) .nil))) (.sl (.v 2) (.one (.bin .add (.v 4) (.c (.int 1)))) .non)))
    .nil) .nil)
    (.cons (.ift (.cmp .eq (.v 5) (.c (.int 2))) (.cons (.ret (.bin .add (.bin .add (.sl (.v 2) .non (.one (.v 4))) (.lst (.cons (.tup (.cons (.ix (.v 7) (.c (.int 0))) (.cons (.ix (.v 9) (.c (.int 1))) .nil))) .nil))) (.sl (.v 2) (.one (.bin .add (.v 4) (.c (.int 1)))) .non)))
    .nil) .nil)
    (.cons (.ift (.cmp .eq (.v 5) (.c (.int 3))) (.cons (.ret (.bin .add (.bin .add (.sl (.v 2) .non (.one (.v 4))) (.lst (.cons (.tup (.cons (.bin .add (.ix (.v 9) (.c (.int 0))) (.tup (.cons (.bin .add (.c (.int 4)) (.v 4)) .nil))) (.cons (.ix (.v 9) (.c (.int 1))) .nil))) .nil))) (.sl (.v 2) (.one (.bin .add (.v 4) (.c (.int 1)))) .non)))
    .nil) .nil)
    (.cons (.ift (.cmp .eq (.v 5) (.c (.int 4))) (.cons (.ret (.bin .add (.bin .add (.sl (.v 2) .non (.one (.v 4))) (.lst (.cons (.v 9) .nil))) (.sl (.v 2) (.one (.v 4)) .non)))
    .nil) .nil)
    (.cons (.ret (.bin .add (.sl (.v 2) .non (.one (.v 4))) (.sl (.v 2) (.one (.bin .add (.v 4) (.c (.int 1)))) .non)))
    .nil)))))))))))))
/- _law_due(_law_thing_here, _law_log_here, _law_book_here): 0 _law_thing_here, 1 _law_log_here, 2 _law_book_here, 3 _law_place, 4 _law_rule_here, 5 _law_here, 6 _law_row -/
def m_l_due_v4 (c_stepped c__law_rows : Nat) (y_Great n_Great : List Nat) : Sms :=
    (.cons (.for' (.tp [3, 4]) (.val (.v 1)) (.cons (.asg (.nm 5) (.comp 6 (.val (.call c__law_rows (.cons (.v 0) (.cons (.v 2) .nil)))) (.one (.cmp .eq (.ix (.v 6) (.c (.int 0))) (.v 3))) (.v 6)))
    (.cons (.ift (.cmp .eq (.v 5) (.lst .nil)) (.cons (.ret (.tup (.cons (.c (.str "refused")) (.cons (.c (.str "place")) .nil))))
    .nil) .nil)
    (.cons (.ift (.or' (.cmp .is (.ix (.ix (.v 5) (.c (.int 0))) (.c (.int 2))) (.c .none)) (.cmp .ne (.ix (.ix (.v 5) (.c (.int 0))) (.c (.int 2))) (.v 4))) (.cons (.ret (.tup (.cons (.c (.str "refused")) (.cons (.c (.str "step")) .nil))))
    .nil) .nil)
    (.cons (.tryM (.cons (.asg (.nm 0) (.call c_stepped (.cons (.v 0) (.cons (.v 3) (.cons (.v 2) .nil)))))
    .nil) (.cons y_Great n_Great (.cons (.ret (.tup (.cons (.c (.str "refused")) (.cons (.c (.str "great")) .nil))))
    .nil)
    .nil))
    .nil)))))
    (.cons (.ret (.tup (.cons (.c (.str "thing")) (.cons (.v 0) .nil))))
    .nil))
/- _law_told(_law_thing_here, _law_log_here, _law_book_here): 0 _law_thing_here, 1 _law_log_here, 2 _law_book_here, 3 _law_e -/
def m_l_told_v9 (c_walked c__law_word : Nat) (y_KeeperError n_KeeperError : List Nat) : Sms :=
    (.cons (.tryA (.cons (.ret (.tup (.cons (.c (.str "thing")) (.cons (.call c_walked (.cons (.v 0) (.cons (.v 1) (.cons (.v 2) .nil)))) .nil))))
    .nil) y_KeeperError n_KeeperError 3 (.cons (.ret (.tup (.cons (.c (.str "refused")) (.cons (.call c__law_word (.cons (.v 3) .nil)) .nil))))
    .nil))
    .nil)
/- law(_law_script): 0 _law_script, 1 _law_tape, 2 _law_pool_here, 3 _law_book_here, 4 _law_thing_here, 5 _law_log_here, 6 _law_due_here, 7 _law_handed, 8 _law_found, 9 _law_short, 10 _law_many -/
def m_law_v8 (c__law_told c__law_due c__law_spoilt c__law_rows c__law_draw c__law_chain c__law_log c__law_under c__law_thing c__law_book c__law_pool : Nat) : Sms :=
    (.cons (.asg (.nm 1) (.lst (.cons (.c (.int 0)) .nil)))
    (.cons (.asg (.nm 2) (.call c__law_pool (.cons (.v 0) (.cons (.v 1) .nil))))
    (.cons (.asg (.nm 3) (.call c__law_book (.cons (.v 0) (.cons (.v 1) (.cons (.v 2) .nil)))))
    (.cons (.asg (.nm 4) (.call c__law_thing (.cons (.v 0) (.cons (.v 1) (.cons (.bin .add (.c (.int 1)) (.call c__law_draw (.cons (.v 0) (.cons (.v 1) (.cons (.c (.int 5)) .nil))))) (.cons (.ix (.lst (.cons (.c (.int 0)) (.cons (.c (.int 3)) (.cons (.c (.int 90)) .nil)))) (.call c__law_draw (.cons (.v 0) (.cons (.v 1) (.cons (.c (.int 3)) .nil))))) (.cons (.v 2) .nil)))))))
    (.cons (.asg (.nm 4) (.call c__law_under (.cons (.v 0) (.cons (.v 1) (.cons (.v 4) .nil)))))
    (.cons (.asg (.nm 5) (.call c__law_log (.cons (.v 0) (.cons (.v 1) (.cons (.v 4) (.cons (.v 3) .nil))))))
    (.cons (.ift (.cmp .eq (.call c__law_draw (.cons (.v 0) (.cons (.v 1) (.cons (.c (.int 7)) .nil)))) (.c (.int 0))) (.cons (.asg (.nm 10) (.call c__law_draw (.cons (.v 0) (.cons (.v 1) (.cons (.c (.int 130)) .nil)))))
    (.cons (.setI (.v 3) (.call c__law_chain (.cons (.v 10) (.cons (.v 3) .nil))) (.tup (.cons (.tup (.cons (.c (.str "nat")) .nil)) (.cons (.tup (.cons (.c (.str "zero")) .nil)) .nil))))
    (.cons (.asg (.nm 4) (.tup (.cons (.c (.str "name")) (.cons (.c (.str "qaa")) .nil))))
    (.cons (.asg (.nm 5) (.bin .mul (.lst (.cons (.tup (.cons (.tup .nil) (.cons (.c (.str "name")) .nil))) .nil)) (.bin .add (.v 10) (.c (.int 1)))))
    .nil)))) .nil)
    (.cons (.asg (.nm 5) (.call c__law_spoilt (.cons (.v 0) (.cons (.v 1) (.cons (.v 5) (.cons (.call c__law_rows (.cons (.v 4) (.cons (.v 3) .nil))) .nil))))))
    (.cons (.asg (.nm 6) (.call c__law_due (.cons (.v 4) (.cons (.v 5) (.cons (.v 3) .nil)))))
    (.cons (.asg (.nm 7) (.bi .lst (.cons (.v 5) .nil)))
    (.cons (.asg (.nm 8) (.call c__law_told (.cons (.v 4) (.cons (.v 7) (.cons (.bi .dict (.cons (.v 3) .nil)) .nil)))))
    (.cons (.ift (.or' (.cmp .ne (.v 8) (.v 6)) (.cmp .ne (.v 7) (.v 5))) (.cons (.ret (.c (.bool false)))
    .nil) .nil)
    (.cons (.ift (.cmp .ne (.call c__law_told (.cons (.v 4) (.cons (.bi .tup (.cons (.v 5) .nil)) (.cons (.v 3) .nil)))) (.v 6)) (.cons (.ret (.c (.bool false)))
    .nil) .nil)
    (.cons (.asg (.nm 9) (.sl (.v 5) .non (.one (.c (.int 1)))))
    (.cons (.ift (.cmp .ne (.call c__law_told (.cons (.v 4) (.cons (.v 9) (.cons (.v 3) .nil)))) (.call c__law_due (.cons (.v 4) (.cons (.v 9) (.cons (.v 3) .nil))))) (.cons (.ret (.c (.bool false)))
    .nil) .nil)
    (.cons (.ret (.cmp .eq (.call c__law_told (.cons (.v 4) (.cons (.v 7) (.cons (.v 3) .nil)))) (.v 6)))
    .nil))))))))))))))))
/- is_kind(thing): 0 thing -/
def m_is_kind (c_knots_if : Nat) : Sms :=
    (.cons (.ret (.cmp .gt (.call c_knots_if (.cons (.v 0) (.cons (.c (.str "k")) (.cons (.c (.int 40)) .nil)))) (.c (.int 0))))
    .nil)
/- _law_end(_law_thing_here, _law_book_here): 0 _law_thing_here, 1 _law_book_here -/
def m_l_end (c_normal : Nat) (y_Dry n_Dry y_Great n_Great : List Nat) : Sms :=
    (.cons (.tryM (.cons (.ret (.lst (.cons (.ix (.call c_normal (.cons (.v 0) (.cons (.c (.int 40)) (.cons (.v 1) .nil)))) (.c (.int 0))) .nil)))
    .nil) (.cons y_Dry n_Dry (.cons (.ret (.lst .nil))
    .nil)
    (.cons y_Great n_Great (.cons (.ret (.lst .nil))
    .nil)
    .nil)))
    .nil)
/- law(_law_script): 0 _law_script, 1 _law_tape, 2 _law_pool_here, 3 _law_book_here, 4 _law_thing_here, 5 _law_end_here, 6 _law_now, 7 _law_turn, 8 _law_last, 9 _law_rows_here, 10 _law_other -/
def m_law_v9 (c__law_end c__law_draw c_is_kind c_is_term c_stepped c_steps_of c__law_thing c__law_book c__law_pool : Nat) (y_Great n_Great : List Nat) : Sms :=
    (.cons (.asg (.nm 1) (.lst (.cons (.c (.int 0)) .nil)))
    (.cons (.asg (.nm 2) (.call c__law_pool (.cons (.v 0) (.cons (.v 1) .nil))))
    (.cons (.asg (.nm 3) (.call c__law_book (.cons (.v 0) (.cons (.v 1) (.cons (.v 2) .nil)))))
    (.cons (.asg (.nm 4) (.call c__law_thing (.cons (.v 0) (.cons (.v 1) (.cons (.bin .add (.c (.int 1)) (.call c__law_draw (.cons (.v 0) (.cons (.v 1) (.cons (.c (.int 5)) .nil))))) (.cons (.ix (.lst (.cons (.c (.int 0)) (.cons (.c (.int 3)) (.cons (.c (.int 90)) .nil)))) (.call c__law_draw (.cons (.v 0) (.cons (.v 1) (.cons (.c (.int 3)) .nil))))) (.cons (.v 2) .nil)))))))
    (.cons (.asg (.nm 5) (.call c__law_end (.cons (.v 4) (.cons (.v 3) .nil))))
    (.cons (.asg (.nm 6) (.v 4))
    (.cons (.for' (.nm 7) (.rng1 (.call c__law_draw (.cons (.v 0) (.cons (.v 1) (.cons (.c (.int 9)) .nil))))) (.cons (.asg (.nm 9) (.call c_steps_of (.cons (.v 6) (.cons (.v 3) .nil))))
    (.cons (.ift (.cmp .eq (.v 9) (.lst .nil)) (.cons (.ret (.or' (.cmp .eq (.v 5) (.lst .nil)) (.cmp .eq (.v 5) (.lst (.cons (.v 6) .nil)))))
    .nil) .nil)
    (.cons (.tryM (.cons (.asg (.nm 10) (.call c_stepped (.cons (.v 6) (.cons (.ix (.ix (.v 9) (.bin .mod (.call c__law_draw (.cons (.v 0) (.cons (.v 1) (.cons (.c (.int 1000)) .nil)))) (.bi .len (.cons (.v 9) .nil)))) (.c (.int 0))) (.cons (.v 3) .nil)))))
    .nil) (.cons y_Great n_Great (.cons (.ret (.c (.bool true)))
    .nil)
    .nil))
    (.cons (.ift (.or' (.cmp .ne (.call c_is_term (.cons (.v 4) .nil)) (.call c_is_term (.cons (.v 10) .nil))) (.cmp .ne (.call c_is_kind (.cons (.v 4) .nil)) (.call c_is_kind (.cons (.v 10) .nil)))) (.cons (.ret (.c (.bool false)))
    .nil) .nil)
    (.cons (.ift (.and' (.call c_is_kind (.cons (.v 4) .nil)) (.cmp .ne (.ix (.v 10) (.c (.int 0))) (.ix (.v 4) (.c (.int 0))))) (.cons (.ret (.c (.bool false)))
    .nil) .nil)
    (.cons (.asg (.nm 6) (.v 10))
    .nil)))))))
    (.cons (.asg (.nm 8) (.call c__law_end (.cons (.v 6) (.cons (.v 3) .nil))))
    (.cons (.ret (.or' (.cmp .eq (.v 5) (.lst .nil)) (.or' (.cmp .eq (.v 8) (.lst .nil)) (.cmp .eq (.v 5) (.v 8)))))
    .nil)))))))))
/- _law_measured(_law_thing): 0 _law_thing, 1 _law_knots, 2 _law_deep, 3 _law_most, 4 _law_kid, 5 _law_told_here -/
def m_l_measured_v2 (c__law_kids c__law_measured : Nat) : Sms :=
    (.cons (.asg (.nm 1) (.c (.int 1)))
    (.cons (.asg (.nm 2) (.c (.int 0)))
    (.cons (.asg (.nm 3) (.neg (.c (.int 1))))
    (.cons (.ift (.cmp .eq (.ix (.v 0) (.c (.int 0))) (.c (.str "var"))) (.cons (.asg (.nm 3) (.ix (.v 0) (.c (.int 1))))
    .nil) .nil)
    (.cons (.for' (.nm 4) (.val (.call c__law_kids (.cons (.v 0) .nil))) (.cons (.asg (.nm 5) (.call c__law_measured (.cons (.v 4) .nil)))
    (.cons (.asg (.nm 1) (.bin .add (.v 1) (.ix (.v 5) (.c (.int 0)))))
    (.cons (.asg (.nm 2) (.bi .max2 (.cons (.v 2) (.cons (.ix (.v 5) (.c (.int 1))) .nil))))
    (.cons (.asg (.nm 3) (.bi .max2 (.cons (.v 3) (.cons (.ix (.v 5) (.c (.int 2))) .nil))))
    .nil)))))
    (.cons (.ret (.tup (.cons (.v 1) (.cons (.bin .add (.v 2) (.c (.int 1))) (.cons (.v 3) .nil)))))
    .nil))))))
/- _law_great(_law_thing): 0 _law_thing, 1 _law_told_here -/
def m_l_great_v3 (c__law_measured : Nat) : Sms :=
    (.cons (.asg (.nm 1) (.call c__law_measured (.cons (.v 0) .nil)))
    (.cons (.ret (.or' (.cmp .gt (.ix (.v 1) (.c (.int 0))) (.c (.int 600))) (.or' (.cmp .gt (.ix (.v 1) (.c (.int 1))) (.c (.int 40))) (.cmp .gt (.ix (.v 1) (.c (.int 2))) (.c (.int 99))))))
    .nil))
/- _law_kids(_law_thing): 0 _law_thing -/
def m_l_kids_v3 : Sms :=
    (.cons (.ift (.cmp .inn (.ix (.v 0) (.c (.int 0))) (.tup (.cons (.c (.str "var")) (.cons (.c (.str "name")) .nil)))) (.cons (.ret (.lst .nil))
    .nil) .nil)
    (.cons (.ret (.bi .lst (.cons (.sl (.v 0) (.one (.c (.int 1))) .non) .nil)))
    .nil))
/- _law_nexts(_law_many, _law_thing): 0 _law_many, 1 _law_thing, 2 _law_k -/
def m_l_nexts : Sms :=
    (.cons (.for' (.nm 2) (.rng1 (.v 0)) (.cons (.asg (.nm 1) (.tup (.cons (.c (.str "next")) (.cons (.v 1) .nil))))
    .nil))
    (.cons (.ret (.v 1))
    .nil))
/- _law_word_by(_law_cell): 0 _law_cell, 1 _law_letters, 2 _law_k -/
def m_l_word_by (c__law_named : Nat) : Sms :=
    (.cons (.asg (.nm 1) (.c (.str "abcdefghijklmnopqrstuvwxyz")))
    (.cons (.ret (.call c__law_named (.cons (.mth .join (.c (.str "")) (.cons (.comp 2 (.rng1 (.bin .add (.c (.int 1)) (.bin .mod (.v 0) (.c (.int 12))))) .non (.ix (.v 1) (.bin .mod (.bin .add (.bin .fdiv (.v 0) (.c (.int 12))) (.bin .mul (.c (.int 7)) (.v 2))) (.c (.int 26))))) .nil)) .nil)))
    .nil))
/- _law_built(_law_script, _law_tape, _law_word_here): 0 _law_script, 1 _law_tape, 2 _law_word_here, 3 _law_way, 4 _law_many, 5 _law_less, 6 _law_book, 7 _law_part, 8 _law_step, 9 _law_base, 10 _law_below, 11 _law_one, 12 _law_deep, 13 _law_here, 14 _law_number -/
def m_l_built (c__law_sized c__law_nexts c__law_draw : Nat) : Sms :=
    (.cons (.asg (.nm 3) (.call c__law_draw (.cons (.v 0) (.cons (.v 1) (.cons (.c (.int 5)) .nil)))))
    (.cons (.asg (.nm 4) (.bin .add (.c (.int 290)) (.call c__law_draw (.cons (.v 0) (.cons (.v 1) (.cons (.c (.int 11)) .nil))))))
    (.cons (.asg (.nm 5) (.call c__law_draw (.cons (.v 0) (.cons (.v 1) (.cons (.c (.int 3)) .nil)))))
    (.cons (.asg (.nm 6) (.dct [] .nil))
    (.cons (.ift (.cmp .eq (.v 3) (.c (.int 0))) (.cons (.asg (.nm 8) (.call c__law_sized (.cons (.v 4) .nil)))
    (.cons (.asg (.nm 9) (.call c__law_nexts (.cons (.v 5) (.cons (.tup (.cons (.c (.str "zero")) .nil)) .nil))))
    (.cons (.asg (.nm 10) (.tup (.cons (.c (.str "rec")) (.cons (.tup (.cons (.c (.str "nat")) .nil)) (.cons (.v 9) (.cons (.v 8) (.cons (.tup (.cons (.c (.str "zero")) .nil)) .nil)))))))
    (.cons (.asg (.nm 11) (.tup (.cons (.c (.str "rec")) (.cons (.tup (.cons (.c (.str "nat")) .nil)) (.cons (.v 9) (.cons (.v 8) (.cons (.tup (.cons (.c (.str "next")) (.cons (.tup (.cons (.c (.str "zero")) .nil)) .nil))) .nil)))))))
    (.cons (.ret (.tup (.cons (.v 11) (.cons (.tup (.cons (.c (.str "app")) (.cons (.tup (.cons (.c (.str "app")) (.cons (.v 8) (.cons (.tup (.cons (.c (.str "zero")) .nil)) .nil)))) (.cons (.v 10) .nil)))) (.cons (.c (.str "next")) (.cons (.v 6) .nil))))))
    .nil))))) .nil)
    (.cons (.ift (.cmp .eq (.v 3) (.c (.int 1))) (.cons (.asg (.nm 12) (.bin .add (.c (.int 15)) (.call c__law_draw (.cons (.v 0) (.cons (.v 1) (.cons (.c (.int 8)) .nil))))))
    (.cons (.asg (.nm 13) (.call c__law_nexts (.cons (.bin .add (.bin .sub (.v 4) (.c (.int 290))) (.c (.int 12))) (.cons (.tup (.cons (.c (.str "zero")) .nil)) .nil))))
    (.cons (.asg (.nm 11) (.tup (.cons (.c (.str "app")) (.cons (.tup (.cons (.c (.str "fun")) (.cons (.tup (.cons (.c (.str "nat")) .nil)) (.cons (.call c__law_nexts (.cons (.v 12) (.cons (.tup (.cons (.c (.str "var")) (.cons (.c (.int 0)) .nil))) .nil))) .nil)))) (.cons (.v 13) .nil)))))
    (.cons (.ret (.tup (.cons (.v 11) (.cons (.call c__law_nexts (.cons (.v 12) (.cons (.v 13) .nil))) (.cons (.c (.str "fun")) (.cons (.v 6) .nil))))))
    .nil)))) .nil)
    (.cons (.ift (.cmp .eq (.v 3) (.c (.int 2))) (.cons (.asg (.nm 14) (.bin .add (.c (.int 95)) (.call c__law_draw (.cons (.v 0) (.cons (.v 1) (.cons (.c (.int 5)) .nil))))))
    (.cons (.asg (.nm 11) (.tup (.cons (.c (.str "app")) (.cons (.tup (.cons (.c (.str "fun")) (.cons (.tup (.cons (.c (.str "nat")) .nil)) (.cons (.tup (.cons (.c (.str "fun")) (.cons (.tup (.cons (.c (.str "nat")) .nil)) (.cons (.call c__law_nexts (.cons (.v 5) (.cons (.tup (.cons (.c (.str "var")) (.cons (.c (.int 1)) .nil))) .nil))) .nil)))) .nil)))) (.cons (.tup (.cons (.c (.str "var")) (.cons (.v 14) .nil))) .nil)))))
    (.cons (.ret (.tup (.cons (.v 11) (.cons (.tup (.cons (.c (.str "fun")) (.cons (.tup (.cons (.c (.str "nat")) .nil)) (.cons (.call c__law_nexts (.cons (.v 5) (.cons (.tup (.cons (.c (.str "var")) (.cons (.bin .add (.v 14) (.c (.int 1))) .nil))) .nil))) .nil)))) (.cons (.c (.str "fun")) (.cons (.v 6) .nil))))))
    .nil))) .nil)
    (.cons (.asg (.nm 7) (.call c__law_sized (.cons (.v 4) .nil)))
    (.cons (.ift (.cmp .eq (.v 3) (.c (.int 3))) (.cons (.setI (.v 6) (.v 2) (.tup (.cons (.tup (.cons (.c (.str "nat")) .nil)) (.cons (.v 7) .nil))))
    (.cons (.ret (.tup (.cons (.tup (.cons (.c (.str "name")) (.cons (.v 2) .nil))) (.cons (.v 7) (.cons (.c (.str "name")) (.cons (.v 6) .nil))))))
    .nil)) .nil)
    (.cons (.ret (.tup (.cons (.tup (.cons (.c (.str "first")) (.cons (.tup (.cons (.c (.str "pair")) (.cons (.tup (.cons (.c (.str "nat")) .nil)) (.cons (.v 7) (.cons (.tup (.cons (.c (.str "zero")) .nil)) .nil))))) .nil))) (.cons (.v 7) (.cons (.c (.str "first")) (.cons (.v 6) .nil))))))
    .nil))))))))))
/- _law_told(_law_way, _law_thing, _law_place, _law_rule, _law_fuel, _law_book): 0 _law_way, 1 _law_thing, 2 _law_place, 3 _law_rule, 4 _law_fuel, 5 _law_book, 6 _law_e -/
def m_l_told_v10 (c_normal c_walked c_stepped c__law_word : Nat) (y_KeeperError n_KeeperError : List Nat) : Sms :=
    (.cons (.tryA (.cons (.ift (.cmp .eq (.v 0) (.c (.int 0))) (.cons (.ret (.tup (.cons (.c (.str "thing")) (.cons (.call c_stepped (.cons (.v 1) (.cons (.v 2) (.cons (.v 5) .nil)))) .nil))))
    .nil) .nil)
    (.cons (.ift (.cmp .eq (.v 0) (.c (.int 1))) (.cons (.ret (.tup (.cons (.c (.str "thing")) (.cons (.call c_walked (.cons (.v 1) (.cons (.lst (.cons (.tup (.cons (.v 2) (.cons (.v 3) .nil))) .nil)) (.cons (.v 5) .nil)))) .nil))))
    .nil) .nil)
    (.cons (.ret (.tup (.cons (.c (.str "thing")) (.cons (.call c_normal (.cons (.v 1) (.cons (.v 4) (.cons (.v 5) .nil)))) .nil))))
    .nil))) y_KeeperError n_KeeperError 6 (.cons (.ret (.tup (.cons (.c (.str "refused")) (.cons (.call c__law_word (.cons (.v 6) .nil)) .nil))))
    .nil))
    .nil)
/- law(_law_script): 0 _law_script, 1 _law_tape, 2 _law_word_here, 3 _law_one, 4 _law_made, 5 _law_rule, 6 _law_book, 7 _law_place, 8 _law_thing, 9 _law_due, 10 _law_way, 11 _law_side -/
def m_law_v10 (c__law_told c__law_great c__law_nexts c__law_draw c__law_sized c__law_built c__law_word_by : Nat) : Sms :=
    (.cons (.asg (.nm 1) (.lst (.cons (.c (.int 0)) .nil)))
    (.cons (.asg (.nm 2) (.call c__law_word_by (.cons (.call c__law_draw (.cons (.v 0) (.cons (.v 1) (.cons (.bin .pow (.c (.int 10)) (.c (.int 6))) .nil)))) .nil)))
    (.cons (.asg (.tp [3, 4, 5, 6]) (.call c__law_built (.cons (.v 0) (.cons (.v 1) (.cons (.v 2) .nil)))))
    (.cons (.asg (.nm 7) (.bin .mul (.tup (.cons (.c (.int 0)) .nil)) (.call c__law_draw (.cons (.v 0) (.cons (.v 1) (.cons (.c (.int 4)) .nil))))))
    (.cons (.ift (.and' (.cmp .eq (.v 5) (.c (.str "name"))) (.cmp .gt (.call c__law_draw (.cons (.v 0) (.cons (.v 1) (.cons (.c (.int 3)) .nil)))) (.c (.int 0)))) (.cons (.asg (.nm 11) (.call c__law_sized (.cons (.c (.int 300)) .nil)))
    (.cons (.asg (.nm 3) (.tup (.cons (.c (.str "app")) (.cons (.v 3) (.cons (.v 11) .nil)))))
    (.cons (.asg (.nm 4) (.tup (.cons (.c (.str "app")) (.cons (.v 4) (.cons (.v 11) .nil)))))
    (.cons (.asg (.nm 7) (.bin .add (.v 7) (.tup (.cons (.c (.int 0)) .nil))))
    .nil)))) .nil)
    (.cons (.asg (.nm 8) (.call c__law_nexts (.cons (.bi .len (.cons (.v 7) .nil)) (.cons (.v 3) .nil))))
    (.cons (.asg (.nm 9) (.tup (.cons (.c (.str "thing")) (.cons (.call c__law_nexts (.cons (.bi .len (.cons (.v 7) .nil)) (.cons (.v 4) .nil))) .nil))))
    (.cons (.ift (.and' (.cmp .eq (.ix (.v 3) (.c (.int 0))) (.c (.str "app"))) (.cmp .eq (.v 5) (.c (.str "name")))) (.cons (.asg (.nm 8) (.call c__law_nexts (.cons (.bin .sub (.bi .len (.cons (.v 7) .nil)) (.c (.int 1))) (.cons (.v 3) .nil))))
    (.cons (.asg (.nm 9) (.tup (.cons (.c (.str "thing")) (.cons (.call c__law_nexts (.cons (.bin .sub (.bi .len (.cons (.v 7) .nil)) (.c (.int 1))) (.cons (.v 4) .nil))) .nil))))
    .nil)) .nil)
    (.cons (.ift (.call c__law_great (.cons (.ix (.v 9) (.c (.int 1))) .nil)) (.cons (.asg (.nm 9) (.tup (.cons (.c (.str "refused")) (.cons (.c (.str "great")) .nil))))
    .nil) .nil)
    (.cons (.for' (.nm 10) (.rng1 (.c (.int 2))) (.cons (.ift (.cmp .ne (.call c__law_told (.cons (.v 10) (.cons (.v 8) (.cons (.v 7) (.cons (.v 5) (.cons (.c (.int 0)) (.cons (.v 6) .nil))))))) (.v 9)) (.cons (.ret (.c (.bool false)))
    .nil) .nil)
    .nil))
    (.cons (.ift (.cmp .ne (.call c__law_told (.cons (.c (.int 2)) (.cons (.v 8) (.cons (.v 7) (.cons (.v 5) (.cons (.c (.int 0)) (.cons (.v 6) .nil))))))) (.tup (.cons (.c (.str "refused")) (.cons (.c (.str "dry")) .nil)))) (.cons (.ret (.c (.bool false)))
    .nil) .nil)
    (.cons (.ift (.cmp .eq (.ix (.v 9) (.c (.int 0))) (.c (.str "refused"))) (.cons (.ret (.cmp .eq (.call c__law_told (.cons (.c (.int 2)) (.cons (.v 8) (.cons (.v 7) (.cons (.v 5) (.cons (.c (.int 1)) (.cons (.v 6) .nil))))))) (.v 9)))
    .nil) .nil)
    (.cons (.ift (.cmp .eq (.v 5) (.c (.str "next"))) (.cons (.ret (.c (.bool true)))
    .nil) .nil)
    (.cons (.ret (.cmp .eq (.call c__law_told (.cons (.c (.int 2)) (.cons (.v 8) (.cons (.v 7) (.cons (.v 5) (.cons (.c (.int 1)) (.cons (.v 6) .nil))))))) (.tup (.cons (.c (.str "thing")) (.cons (.tup (.cons (.ix (.v 9) (.c (.int 1))) (.cons (.lst (.cons (.tup (.cons (.v 7) (.cons (.v 5) .nil))) .nil)) .nil))) .nil)))))
    .nil))))))))))))))
/- _law_over(_law_thing, _law_number): 0 _law_thing, 1 _law_number -/
def m_l_over_v2 : Sms :=
    (.cons (.ift (.cmp .inn (.ix (.v 0) (.c (.int 0))) (.tup (.cons (.c (.str "all")) (.cons (.c (.str "some")) (.cons (.c (.str "fun")) .nil))))) (.cons (.ret (.bi .int (.cons (.cmp .eq (.v 1) (.c (.int 1))) .nil)))
    .nil) .nil)
    (.cons (.ret (.bi .int (.cons (.and' (.cmp .inn (.ix (.v 0) (.c (.int 0))) (.tup (.cons (.c (.str "rec")) (.cons (.c (.str "carry")) .nil)))) (.cmp .eq (.v 1) (.c (.int 0)))) .nil)))
    .nil))
/- _law_moved(_law_thing, _law_by, _law_low): 0 _law_thing, 1 _law_by, 2 _law_low, 3 _law_kids_here, 4 _law_k -/
def m_l_moved_v3 (c__law_moved c__law_over c__law_kids : Nat) : Sms :=
    (.cons (.ift (.cmp .eq (.ix (.v 0) (.c (.int 0))) (.c (.str "var"))) (.cons (.ret (.tup (.cons (.c (.str "var")) (.cons (.bin .add (.ix (.v 0) (.c (.int 1))) (.bin .mul (.v 1) (.bi .int (.cons (.cmp .ge (.ix (.v 0) (.c (.int 1))) (.v 2)) .nil)))) .nil))))
    .nil) .nil)
    (.cons (.asg (.nm 3) (.call c__law_kids (.cons (.v 0) .nil)))
    (.cons (.ift (.cmp .eq (.v 3) (.lst .nil)) (.cons (.ret (.v 0))
    .nil) .nil)
    (.cons (.ret (.bin .add (.tup (.cons (.ix (.v 0) (.c (.int 0))) .nil)) (.bi .tup (.cons (.comp 4 (.rng1 (.bi .len (.cons (.v 3) .nil))) .non (.call c__law_moved (.cons (.ix (.v 3) (.v 4)) (.cons (.v 1) (.cons (.bin .add (.v 2) (.call c__law_over (.cons (.v 0) (.cons (.v 4) .nil)))) .nil))))) .nil))))
    .nil))))
/- _law_put(_law_thing, _law_other, _law_over_here): 0 _law_thing, 1 _law_other, 2 _law_over_here, 3 _law_kids_here, 4 _law_k -/
def m_l_put_v3 (c__law_put c__law_over c__law_kids c__law_moved : Nat) : Sms :=
    (.cons (.ift (.and' (.cmp .eq (.ix (.v 0) (.c (.int 0))) (.c (.str "var"))) (.cmp .eq (.ix (.v 0) (.c (.int 1))) (.v 2))) (.cons (.ret (.call c__law_moved (.cons (.v 1) (.cons (.v 2) (.cons (.c (.int 0)) .nil)))))
    .nil) .nil)
    (.cons (.ift (.cmp .eq (.ix (.v 0) (.c (.int 0))) (.c (.str "var"))) (.cons (.ret (.tup (.cons (.c (.str "var")) (.cons (.bin .sub (.ix (.v 0) (.c (.int 1))) (.bi .int (.cons (.cmp .gt (.ix (.v 0) (.c (.int 1))) (.v 2)) .nil))) .nil))))
    .nil) .nil)
    (.cons (.asg (.nm 3) (.call c__law_kids (.cons (.v 0) .nil)))
    (.cons (.ift (.cmp .eq (.v 3) (.lst .nil)) (.cons (.ret (.v 0))
    .nil) .nil)
    (.cons (.ret (.bin .add (.tup (.cons (.ix (.v 0) (.c (.int 0))) .nil)) (.bi .tup (.cons (.comp 4 (.rng1 (.bi .len (.cons (.v 3) .nil))) .non (.call c__law_put (.cons (.ix (.v 3) (.v 4)) (.cons (.v 1) (.cons (.bin .add (.v 2) (.call c__law_over (.cons (.v 0) (.cons (.v 4) .nil)))) .nil))))) .nil))))
    .nil)))))
/- _law_round(_law_way, _law_thing): 0 _law_way, 1 _law_thing, 2 _law_kind -/
def m_l_round : Sms :=
    (.cons (.asg (.nm 2) (.tup (.cons (.c (.str "same")) (.cons (.tup (.cons (.c (.str "nat")) .nil)) (.cons (.v 1) (.cons (.tup (.cons (.c (.str "zero")) .nil)) .nil))))))
    (.cons (.ift (.cmp .eq (.v 0) (.c (.int 0))) (.cons (.ret (.tup (.cons (.c (.str "rec")) (.cons (.v 2) (.cons (.tup (.cons (.c (.str "zero")) .nil)) (.cons (.tup (.cons (.c (.str "zero")) .nil)) (.cons (.tup (.cons (.c (.str "zero")) .nil)) .nil)))))))
    .nil) .nil)
    (.cons (.ift (.cmp .eq (.v 0) (.c (.int 1))) (.cons (.ret (.tup (.cons (.c (.str "carry")) (.cons (.v 2) (.cons (.tup (.cons (.c (.str "zero")) .nil)) (.cons (.tup (.cons (.c (.str "zero")) .nil)) .nil))))))
    .nil) .nil)
    (.cons (.ift (.cmp .eq (.v 0) (.c (.int 2))) (.cons (.ret (.tup (.cons (.c (.str "like")) (.cons (.tup (.cons (.c (.str "all")) (.cons (.tup (.cons (.c (.str "nat")) .nil)) (.cons (.v 2) .nil)))) (.cons (.tup (.cons (.c (.str "zero")) .nil)) .nil)))))
    .nil) .nil)
    (.cons (.ift (.cmp .lt (.v 0) (.c (.int 6))) (.cons (.ret (.tup (.cons (.c (.str "fun")) (.cons (.tup (.cons (.c (.str "nat")) .nil)) (.cons (.v 1) .nil)))))
    .nil) .nil)
    (.cons (.ret (.ix (.lst (.cons (.tup (.cons (.c (.str "next")) (.cons (.v 1) .nil))) (.cons (.tup (.cons (.c (.str "pair")) (.cons (.tup (.cons (.c (.str "nat")) .nil)) (.cons (.tup (.cons (.c (.str "zero")) .nil)) (.cons (.v 1) .nil))))) .nil))) (.bin .sub (.v 0) (.c (.int 6)))))
    .nil))))))
/- _law_deep(_law_script, _law_tape): 0 _law_script, 1 _law_tape, 2 _law_ways, 3 _law_binders, 4 _law_number, 5 _law_body, 6 _law_way, 7 _law_far, 8 _law_other, 9 _law_made, 10 _law_k -/
def m_l_deep_v2 (c__law_great c__law_draw c__law_round : Nat) : Sms :=
    (.cons (.asg (.nm 2) (.comp 10 (.rng1 (.call c__law_draw (.cons (.v 0) (.cons (.v 1) (.cons (.c (.int 30)) .nil))))) .non (.call c__law_draw (.cons (.v 0) (.cons (.v 1) (.cons (.c (.int 8)) .nil))))))
    (.cons (.asg (.nm 3) (.bi .len (.cons (.comp 6 (.val (.v 2)) (.one (.cmp .lt (.v 6) (.c (.int 6)))) (.v 6)) .nil)))
    (.cons (.asg (.nm 4) (.ix (.lst (.cons (.v 3) (.cons (.call c__law_draw (.cons (.v 0) (.cons (.v 1) (.cons (.bin .add (.v 3) (.c (.int 3))) .nil)))) .nil))) (.call c__law_draw (.cons (.v 0) (.cons (.v 1) (.cons (.c (.int 2)) .nil))))))
    (.cons (.asg (.nm 5) (.tup (.cons (.c (.str "app")) (.cons (.tup (.cons (.c (.str "var")) (.cons (.v 4) .nil))) (.cons (.tup (.cons (.c (.str "var")) (.cons (.call c__law_draw (.cons (.v 0) (.cons (.v 1) (.cons (.bin .add (.v 3) (.c (.int 2))) .nil)))) .nil))) .nil)))))
    (.cons (.for' (.nm 6) (.val (.v 2)) (.cons (.asg (.nm 5) (.call c__law_round (.cons (.v 6) (.cons (.v 5) .nil))))
    .nil))
    (.cons (.asg (.nm 7) (.ix (.lst (.cons (.c (.int 3)) (.cons (.c (.int 60)) .nil))) (.call c__law_draw (.cons (.v 0) (.cons (.v 1) (.cons (.c (.int 2)) .nil))))))
    (.cons (.asg (.nm 8) (.tup (.cons (.c (.str "app")) (.cons (.tup (.cons (.c (.str "var")) (.cons (.call c__law_draw (.cons (.v 0) (.cons (.v 1) (.cons (.v 7) .nil)))) .nil))) (.cons (.tup (.cons (.c (.str "next")) (.cons (.tup (.cons (.c (.str "var")) (.cons (.call c__law_draw (.cons (.v 0) (.cons (.v 1) (.cons (.v 7) .nil)))) .nil))) .nil))) .nil)))))
    (.cons (.asg (.nm 9) (.tup (.cons (.c (.str "app")) (.cons (.tup (.cons (.c (.str "fun")) (.cons (.tup (.cons (.c (.str "nat")) .nil)) (.cons (.v 5) .nil)))) (.cons (.v 8) .nil)))))
    (.cons (.ift (.call c__law_great (.cons (.v 9) .nil)) (.cons (.ret (.tup (.cons (.c (.str "zero")) .nil)))
    .nil) .nil)
    (.cons (.ret (.v 9))
    .nil))))))))))
/- _law_told(_law_way, _law_thing, _law_place): 0 _law_way, 1 _law_thing, 2 _law_place -/
def m_l_told_v2 (c_walked c_stepped : Nat) (y_Great n_Great : List Nat) : Sms :=
    (.cons (.tryM (.cons (.ift (.cmp .eq (.v 0) (.c (.int 0))) (.cons (.ret (.call c_stepped (.cons (.v 1) (.cons (.v 2) (.cons (.dct [] .nil) .nil)))))
    .nil) .nil)
    (.cons (.ret (.call c_walked (.cons (.v 1) (.cons (.lst (.cons (.tup (.cons (.v 2) (.cons (.c (.str "fun")) .nil))) .nil)) (.cons (.dct [] .nil) .nil)))))
    .nil)) (.cons y_Great n_Great (.cons (.ret (.c (.str "great")))
    .nil)
    .nil))
    .nil)
/- _law_first(_law_thing, _law_place): 0 _law_thing, 1 _law_place -/
def m_l_first (c_normal : Nat) (y_Dry n_Dry y_Great n_Great : List Nat) : Sms :=
    (.cons (.tryM (.cons (.ret (.cmp .eq (.ix (.ix (.call c_normal (.cons (.v 0) (.cons (.c (.int 600)) (.cons (.dct [] .nil) .nil)))) (.c (.int 1))) (.c (.int 0))) (.tup (.cons (.v 1) (.cons (.c (.str "fun")) .nil)))))
    .nil) (.cons y_Dry n_Dry (.cons (.ret (.c (.bool false)))
    .nil)
    (.cons y_Great n_Great (.cons (.ret (.c (.bool true)))
    .nil)
    .nil)))
    .nil)
/- law(_law_script): 0 _law_script, 1 _law_tape, 2 _law_one, 3 _law_due, 4 _law_place, 5 _law_thing, 6 _law_k, 7 _law_way -/
def m_law_v11 (c__law_told c_stepped c__law_first c__law_great c__law_draw c__law_put c__law_deep : Nat) : Sms :=
    (.cons (.asg (.nm 1) (.lst (.cons (.c (.int 0)) .nil)))
    (.cons (.asg (.nm 2) (.call c__law_deep (.cons (.v 0) (.cons (.v 1) .nil))))
    (.cons (.ift (.cmp .eq (.v 2) (.tup (.cons (.c (.str "zero")) .nil))) (.cons (.ret (.c (.bool true)))
    .nil) .nil)
    (.cons (.asg (.nm 3) (.call c__law_put (.cons (.ix (.ix (.v 2) (.c (.int 1))) (.c (.int 2))) (.cons (.ix (.v 2) (.c (.int 2))) (.cons (.c (.int 0)) .nil)))))
    (.cons (.asg (.nm 4) (.bin .mul (.tup (.cons (.c (.int 0)) .nil)) (.call c__law_draw (.cons (.v 0) (.cons (.v 1) (.cons (.c (.int 4)) .nil))))))
    (.cons (.asg (.nm 5) (.v 2))
    (.cons (.for' (.nm 6) (.rng1 (.bi .len (.cons (.v 4) .nil))) (.cons (.asg (.nm 5) (.tup (.cons (.c (.str "next")) (.cons (.v 5) .nil))))
    (.cons (.asg (.nm 3) (.tup (.cons (.c (.str "next")) (.cons (.v 3) .nil))))
    .nil)))
    (.cons (.ift (.call c__law_great (.cons (.v 5) .nil)) (.cons (.ret (.c (.bool true)))
    .nil) .nil)
    (.cons (.ift (.call c__law_great (.cons (.v 3) .nil)) (.cons (.asg (.nm 3) (.c (.str "great")))
    .nil) .nil)
    (.cons (.for' (.nm 7) (.rng1 (.c (.int 2))) (.cons (.ift (.cmp .ne (.call c__law_told (.cons (.v 7) (.cons (.v 5) (.cons (.v 4) .nil)))) (.v 3)) (.cons (.ret (.c (.bool false)))
    .nil) .nil)
    .nil))
    (.cons (.ift (.not' (.call c__law_first (.cons (.v 5) (.cons (.v 4) .nil)))) (.cons (.ret (.c (.bool false)))
    .nil) .nil)
    (.cons (.ex (.call c_stepped (.cons (.tup (.cons (.c (.str "app")) (.cons (.tup (.cons (.c (.str "fun")) (.cons (.tup (.cons (.c (.str "nat")) .nil)) (.cons (.tup (.cons (.c (.str "var")) (.cons (.c (.int 0)) .nil))) .nil)))) (.cons (.tup (.cons (.c (.str "zero")) .nil)) .nil)))) (.cons (.tup .nil) (.cons (.dct [] .nil) .nil)))))
    (.cons (.ret (.cmp .eq (.call c__law_told (.cons (.c (.int 0)) (.cons (.v 5) (.cons (.v 4) .nil)))) (.v 3)))
    .nil)))))))))))))
/- unlike(here, there): 0 here, 1 there -/
def m_unlike : Sms :=
    (.cons (.ift (.cmp .ne (.ix (.v 0) (.c (.int 0))) (.ix (.v 1) (.c (.int 0)))) (.cons (.ret (.c (.bool true)))
    .nil) .nil)
    (.cons (.ret (.and' (.cmp .inn (.ix (.v 0) (.c (.int 0))) (.tup (.cons (.c (.str "var")) (.cons (.c (.str "name")) .nil)))) (.cmp .ne (.ix (.v 0) (.c (.int 1))) (.ix (.v 1) (.c (.int 1))))))
    .nil))
/- parting(one, other): 0 one, 1 other, 2 waiting, 3 place, 4 here, 5 there, 6 kids, 7 others, 8 number -/
def m_parting (c_kids_of c_unlike : Nat) : Sms :=
    (.cons (.asg (.nm 2) (.lst (.cons (.tup (.cons (.tup .nil) (.cons (.v 0) (.cons (.v 1) .nil)))) .nil)))
    (.cons (.while (.cmp .gt (.bi .len (.cons (.v 2) .nil)) (.c (.int 0))) (.cons (.asg (.tp [3, 4, 5]) (.mth .pop0 (.v 2) .nil))
    (.cons (.ift (.call c_unlike (.cons (.v 4) (.cons (.v 5) .nil))) (.cons (.ret (.v 3))
    .nil) .nil)
    (.cons (.asg (.nm 6) (.call c_kids_of (.cons (.v 4) .nil)))
    (.cons (.asg (.nm 7) (.call c_kids_of (.cons (.v 5) .nil)))
    (.cons (.for' (.nm 8) (.revR (.bi .len (.cons (.v 6) .nil))) (.cons (.ex (.mth .append (.v 2) (.cons (.tup (.cons (.bin .add (.v 3) (.tup (.cons (.v 8) .nil))) (.cons (.ix (.v 6) (.v 8)) (.cons (.ix (.v 7) (.v 8)) .nil)))) .nil)))
    .nil))
    .nil))))))
    (.cons (.ret (.c .none))
    .nil)))
/- _law_with(_law_thing_here, _law_place, _law_new): 0 _law_thing_here, 1 _law_place, 2 _law_new, 3 _law_at -/
def m_l_with_v2 (c__law_with : Nat) : Sms :=
    (.cons (.ift (.cmp .eq (.v 1) (.tup .nil)) (.cons (.ret (.v 2))
    .nil) .nil)
    (.cons (.asg (.nm 3) (.bin .add (.ix (.v 1) (.c (.int 0))) (.c (.int 1))))
    (.cons (.ret (.bin .add (.bin .add (.sl (.v 0) .non (.one (.v 3))) (.tup (.cons (.call c__law_with (.cons (.ix (.v 0) (.v 3)) (.cons (.sl (.v 1) (.one (.c (.int 1))) .non) (.cons (.v 2) .nil)))) .nil))) (.sl (.v 0) (.one (.bin .add (.v 3) (.c (.int 1)))) .non)))
    .nil)))
/- _law_unlike(_law_here, _law_there): 0 _law_here, 1 _law_there -/
def m_l_unlike : Sms :=
    (.cons (.ift (.cmp .ne (.ix (.v 0) (.c (.int 0))) (.ix (.v 1) (.c (.int 0)))) (.cons (.ret (.c (.bool true)))
    .nil) .nil)
    (.cons (.ret (.and' (.cmp .inn (.ix (.v 0) (.c (.int 0))) (.tup (.cons (.c (.str "var")) (.cons (.c (.str "name")) .nil)))) (.cmp .ne (.ix (.v 0) (.c (.int 1))) (.ix (.v 1) (.c (.int 1))))))
    .nil))
/- _law_due(_law_one, _law_other): 0 _law_one, 1 _law_other, 2 _law_rows_here, 3 _law_others, 4 _law_k -/
def m_l_due_v5 (c__law_unlike c__law_rows : Nat) : Sms :=
    (.cons (.asg (.nm 2) (.call c__law_rows (.cons (.v 0) (.cons (.dct [] .nil) .nil))))
    (.cons (.asg (.nm 3) (.call c__law_rows (.cons (.v 1) (.cons (.dct [] .nil) .nil))))
    (.cons (.for' (.nm 4) (.rng1 (.bi .min2 (.cons (.bi .len (.cons (.v 2) .nil)) (.cons (.bi .len (.cons (.v 3) .nil)) .nil)))) (.cons (.ift (.call c__law_unlike (.cons (.ix (.ix (.v 2) (.v 4)) (.c (.int 1))) (.cons (.ix (.ix (.v 3) (.v 4)) (.c (.int 1))) .nil))) (.cons (.ret (.ix (.ix (.v 2) (.v 4)) (.c (.int 0))))
    .nil) .nil)
    .nil))
    (.cons (.ret (.c .none))
    .nil))))
/- _law_changed(_law_script, _law_tape, _law_thing_here, _law_near, _law_pool_here): 0 _law_script, 1 _law_tape, 2 _law_thing_here, 3 _law_near, 4 _law_pool_here, 5 _law_rows_here, 6 _law_row, 7 _law_deep, 8 _law_made, 9 _law_new -/
def m_l_changed (c__law_great c__law_with c__law_kind c__law_draw c__law_term c__law_rows : Nat) : Sms :=
    (.cons (.asg (.nm 5) (.call c__law_rows (.cons (.v 2) (.cons (.dct [] .nil) .nil))))
    (.cons (.asg (.nm 6) (.ix (.v 5) (.bin .mod (.call c__law_draw (.cons (.v 0) (.cons (.v 1) (.cons (.bin .pow (.c (.int 10)) (.c (.int 6))) .nil)))) (.bi .len (.cons (.v 5) .nil)))))
    (.cons (.asg (.nm 7) (.call c__law_draw (.cons (.v 0) (.cons (.v 1) (.cons (.c (.int 3)) .nil)))))
    (.cons (.ift (.cmp .inn (.ix (.ix (.v 6) (.c (.int 1))) (.c (.int 0))) (.tup (.cons (.c (.str "nat")) (.cons (.c (.str "none")) (.cons (.c (.str "all")) (.cons (.c (.str "some")) (.cons (.c (.str "same")) .nil))))))) (.cons (.asg (.nm 9) (.call c__law_kind (.cons (.v 0) (.cons (.v 1) (.cons (.v 7) (.cons (.v 3) (.cons (.v 4) .nil)))))))
    .nil) (.cons (.ift (.and' (.cmp .eq (.ix (.ix (.v 6) (.c (.int 1))) (.c (.int 0))) (.c (.str "var"))) (.cmp .eq (.call c__law_draw (.cons (.v 0) (.cons (.v 1) (.cons (.c (.int 2)) .nil)))) (.c (.int 0)))) (.cons (.asg (.nm 9) (.tup (.cons (.c (.str "var")) (.cons (.bin .mod (.bin .add (.ix (.ix (.v 6) (.c (.int 1))) (.c (.int 1))) (.c (.int 1))) (.c (.int 100))) .nil))))
    .nil) (.cons (.ift (.cmp .eq (.ix (.ix (.v 6) (.c (.int 1))) (.c (.int 0))) (.c (.str "name"))) (.cons (.asg (.nm 9) (.tup (.cons (.c (.str "name")) (.cons (.ix (.v 4) (.call c__law_draw (.cons (.v 0) (.cons (.v 1) (.cons (.c (.int 3)) .nil))))) .nil))))
    .nil) (.cons (.asg (.nm 9) (.call c__law_term (.cons (.v 0) (.cons (.v 1) (.cons (.v 7) (.cons (.v 3) (.cons (.v 4) .nil)))))))
    .nil))
    .nil))
    .nil))
    (.cons (.asg (.nm 8) (.call c__law_with (.cons (.v 2) (.cons (.ix (.v 6) (.c (.int 0))) (.cons (.v 9) .nil)))))
    (.cons (.ift (.call c__law_great (.cons (.v 8) .nil)) (.cons (.ret (.v 2))
    .nil) .nil)
    (.cons (.ret (.v 8))
    .nil)))))))
/- _law_nexts(_law_many, _law_thing_here): 0 _law_many, 1 _law_thing_here, 2 _law_k -/
def m_l_nexts_v2 : Sms :=
    (.cons (.for' (.nm 2) (.rng1 (.v 0)) (.cons (.asg (.nm 1) (.tup (.cons (.c (.str "next")) (.cons (.v 1) .nil))))
    .nil))
    (.cons (.ret (.v 1))
    .nil))
/- _law_told(_law_found, _law_due_here): 0 _law_found, 1 _law_due_here, 2 _law_number_here -/
def m_l_told_v3 : Sms :=
    (.cons (.ift (.cmp .is (.v 1) (.c .none)) (.cons (.ret (.cmp .is (.v 0) (.c .none)))
    .nil) .nil)
    (.cons (.ift (.or' (.not' (.isi (.v 0) .tup)) (.cmp .ne (.v 0) (.v 1))) (.cons (.ret (.c (.bool false)))
    .nil) .nil)
    (.cons (.for' (.nm 2) (.val (.v 0)) (.cons (.ift (.or' (.not' (.isi (.v 2) .int)) (.isi (.v 2) .bool)) (.cons (.ret (.c (.bool false)))
    .nil) .nil)
    .nil))
    (.cons (.ret (.c (.bool true)))
    .nil))))
/- law(_law_script): 0 _law_script, 1 _law_tape, 2 _law_pool_here, 3 _law_near, 4 _law_sort, 5 _law_deep, 6 _law_one, 7 _law_other, 8 _law_way, 9 _law_k, 10 _law_due_here, 11 _law_side, 12 _law_many -/
def m_law_v12 (c__law_told c_parting c__law_due c__law_draw c__law_measured c__law_nexts c__law_sized c__law_changed c__law_great c__law_kind c__law_term c__law_pool : Nat) : Sms :=
    (.cons (.asg (.nm 1) (.lst (.cons (.c (.int 0)) .nil)))
    (.cons (.asg (.nm 2) (.call c__law_pool (.cons (.v 0) (.cons (.v 1) .nil))))
    (.cons (.asg (.nm 3) (.ix (.lst (.cons (.c (.int 0)) (.cons (.c (.int 3)) (.cons (.c (.int 90)) .nil)))) (.call c__law_draw (.cons (.v 0) (.cons (.v 1) (.cons (.c (.int 3)) .nil))))))
    (.cons (.asg (.nm 4) (.call c__law_draw (.cons (.v 0) (.cons (.v 1) (.cons (.c (.int 5)) .nil)))))
    (.cons (.asg (.nm 5) (.bin .add (.c (.int 1)) (.call c__law_draw (.cons (.v 0) (.cons (.v 1) (.cons (.c (.int 5)) .nil))))))
    (.cons (.asg (.nm 6) (.call c__law_term (.cons (.v 0) (.cons (.v 1) (.cons (.v 5) (.cons (.v 3) (.cons (.v 2) .nil)))))))
    (.cons (.asg (.nm 7) (.call c__law_term (.cons (.v 0) (.cons (.v 1) (.cons (.v 5) (.cons (.v 3) (.cons (.v 2) .nil)))))))
    (.cons (.ift (.cmp .eq (.v 4) (.c (.int 0))) (.cons (.asg (.nm 6) (.call c__law_kind (.cons (.v 0) (.cons (.v 1) (.cons (.v 5) (.cons (.v 3) (.cons (.v 2) .nil)))))))
    (.cons (.asg (.nm 7) (.call c__law_kind (.cons (.v 0) (.cons (.v 1) (.cons (.v 5) (.cons (.v 3) (.cons (.v 2) .nil)))))))
    .nil)) .nil)
    (.cons (.ift (.or' (.call c__law_great (.cons (.v 6) .nil)) (.call c__law_great (.cons (.v 7) .nil))) (.cons (.ret (.c (.bool true)))
    .nil) .nil)
    (.cons (.asg (.nm 8) (.call c__law_draw (.cons (.v 0) (.cons (.v 1) (.cons (.c (.int 5)) .nil)))))
    (.cons (.ift (.cmp .lt (.v 8) (.c (.int 4))) (.cons (.asg (.nm 7) (.v 6))
    .nil) .nil)
    (.cons (.for' (.nm 9) (.rng1 (.ix (.lst (.cons (.c (.int 0)) (.cons (.c (.int 1)) (.cons (.c (.int 1)) (.cons (.c (.int 2)) (.cons (.c (.int 0)) .nil)))))) (.v 8))) (.cons (.asg (.nm 7) (.call c__law_changed (.cons (.v 0) (.cons (.v 1) (.cons (.v 7) (.cons (.v 3) (.cons (.v 2) .nil)))))))
    .nil))
    (.cons (.ift (.and' (.cmp .gt (.v 4) (.c (.int 0))) (.and' (.cmp .eq (.call c__law_draw (.cons (.v 0) (.cons (.v 1) (.cons (.c (.int 6)) .nil)))) (.c (.int 0))) (.cmp .lt (.bin .add (.ix (.call c__law_measured (.cons (.v 6) .nil)) (.c (.int 0))) (.ix (.call c__law_measured (.cons (.v 7) .nil)) (.c (.int 0)))) (.c (.int 200))))) (.cons (.asg (.nm 11) (.call c__law_sized (.cons (.bin .add (.c (.int 1)) (.call c__law_draw (.cons (.v 0) (.cons (.v 1) (.cons (.c (.int 300)) .nil))))) .nil)))
    (.cons (.asg (.nm 12) (.call c__law_draw (.cons (.v 0) (.cons (.v 1) (.cons (.c (.int 25)) .nil)))))
    (.cons (.asg (.nm 6) (.call c__law_nexts (.cons (.v 12) (.cons (.tup (.cons (.c (.str "app")) (.cons (.v 11) (.cons (.v 6) .nil)))) .nil))))
    (.cons (.asg (.nm 7) (.call c__law_nexts (.cons (.v 12) (.cons (.tup (.cons (.c (.str "app")) (.cons (.v 11) (.cons (.v 7) .nil)))) .nil))))
    .nil)))) .nil)
    (.cons (.asg (.nm 10) (.call c__law_due (.cons (.v 6) (.cons (.v 7) .nil))))
    (.cons (.ift (.or' (.not' (.call c__law_told (.cons (.call c_parting (.cons (.v 6) (.cons (.v 7) .nil))) (.cons (.v 10) .nil)))) (.not' (.call c__law_told (.cons (.call c_parting (.cons (.v 7) (.cons (.v 6) .nil))) (.cons (.v 10) .nil))))) (.cons (.ret (.c (.bool false)))
    .nil) .nil)
    (.cons (.ret (.and' (.call c__law_told (.cons (.call c_parting (.cons (.v 6) (.cons (.v 6) .nil))) (.cons (.c .none) .nil))) (.call c__law_told (.cons (.call c_parting (.cons (.v 6) (.cons (.v 7) .nil))) (.cons (.v 10) .nil)))))
    .nil))))))))))))))))
/- compared(one, other, fuel, book): 0 one, 1 other, 2 fuel, 3 book, 4 here, 5 there -/
def m_compared (c_parting c_normal : Nat) : Sms :=
    (.cons (.asg (.nm 4) (.call c_normal (.cons (.v 0) (.cons (.v 2) (.cons (.v 3) .nil)))))
    (.cons (.asg (.nm 5) (.call c_normal (.cons (.v 1) (.cons (.v 2) (.cons (.v 3) .nil)))))
    (.cons (.ret (.tup (.cons (.ix (.v 4) (.c (.int 0))) (.cons (.ix (.v 5) (.c (.int 0))) (.cons (.ix (.v 4) (.c (.int 1))) (.cons (.ix (.v 5) (.c (.int 1))) (.cons (.call c_parting (.cons (.ix (.v 4) (.c (.int 0))) (.cons (.ix (.v 5) (.c (.int 0))) .nil))) .nil)))))))
    .nil)))
/- alike(one, other, fuel, book): 0 one, 1 other, 2 fuel, 3 book -/
def m_alike (c_compared : Nat) : Sms :=
    (.cons (.ret (.cmp .is (.ix (.call c_compared (.cons (.v 0) (.cons (.v 1) (.cons (.v 2) (.cons (.v 3) .nil))))) (.c (.int 4))) (.c .none)))
    .nil)
/- _law_other(_law_script, _law_tape, _law_thing_here, _law_book_here): 0 _law_script, 1 _law_tape, 2 _law_thing_here, 3 _law_book_here, 4 _law_now, 5 _law_turn, 6 _law_able, 7 _law_row -/
def m_l_other_v3 (c__law_draw c_stepped c__law_rows : Nat) (y_Great n_Great : List Nat) : Sms :=
    (.cons (.asg (.nm 4) (.v 2))
    (.cons (.for' (.nm 5) (.rng1 (.call c__law_draw (.cons (.v 0) (.cons (.v 1) (.cons (.c (.int 4)) .nil))))) (.cons (.asg (.nm 6) (.comp 7 (.val (.call c__law_rows (.cons (.v 4) (.cons (.v 3) .nil)))) (.one (.cmp .isn (.ix (.v 7) (.c (.int 2))) (.c .none))) (.v 7)))
    (.cons (.ift (.cmp .eq (.v 6) (.lst .nil)) (.cons (.ret (.v 4))
    .nil) .nil)
    (.cons (.tryM (.cons (.asg (.nm 4) (.call c_stepped (.cons (.v 4) (.cons (.ix (.ix (.v 6) (.bin .mod (.call c__law_draw (.cons (.v 0) (.cons (.v 1) (.cons (.c (.int 1000)) .nil)))) (.bi .len (.cons (.v 6) .nil)))) (.c (.int 0))) (.cons (.v 3) .nil)))))
    .nil) (.cons y_Great n_Great (.cons (.ret (.v 4))
    .nil)
    .nil))
    .nil))))
    (.cons (.ret (.v 4))
    .nil)))
/- _law_unlike_ends(_law_script, _law_tape, _law_pool_here, _law_book_here): 0 _law_script, 1 _law_tape, 2 _law_pool_here, 3 _law_book_here, 4 _law_twice, 5 _law_both_here, 6 _law_at -/
def m_l_unlike_ends (c__law_draw c__law_sized : Nat) : Sms :=
    (.cons (.setI (.v 3) (.ix (.v 2) (.c (.int 0))) (.tup (.cons (.tup (.cons (.c (.str "nat")) .nil)) (.cons (.tup (.cons (.c (.str "name")) (.cons (.ix (.v 2) (.c (.int 0))) .nil))) .nil))))
    (.cons (.asg (.nm 4) (.tup (.cons (.c (.str "app")) (.cons (.tup (.cons (.c (.str "fun")) (.cons (.tup (.cons (.c (.str "nat")) .nil)) (.cons (.tup (.cons (.c (.str "app")) (.cons (.tup (.cons (.c (.str "var")) (.cons (.c (.int 0)) .nil))) (.cons (.tup (.cons (.c (.str "var")) (.cons (.c (.int 0)) .nil))) .nil)))) .nil)))) (.cons (.call c__law_sized (.cons (.c (.int 301)) .nil)) .nil)))))
    (.cons (.asg (.nm 5) (.lst (.cons (.tup (.cons (.c (.str "name")) (.cons (.ix (.v 2) (.c (.int 0))) .nil))) (.cons (.v 4) .nil))))
    (.cons (.asg (.nm 6) (.call c__law_draw (.cons (.v 0) (.cons (.v 1) (.cons (.c (.int 2)) .nil)))))
    (.cons (.ret (.tup (.cons (.ix (.v 5) (.v 6)) (.cons (.ix (.v 5) (.bin .sub (.c (.int 1)) (.v 6))) .nil))))
    .nil)))))
/- _law_due(_law_one, _law_other_here, _law_fuel, _law_book_here): 0 _law_one, 1 _law_other_here, 2 _law_fuel, 3 _law_book_here, 4 _law_here, 5 _law_there, 6 _law_e -/
def m_l_due_v8 (c_parting c_normal c__law_word : Nat) (y_KeeperError n_KeeperError : List Nat) : Sms :=
    (.cons (.tryA (.cons (.asg (.nm 4) (.call c_normal (.cons (.v 0) (.cons (.v 2) (.cons (.v 3) .nil)))))
    (.cons (.asg (.nm 5) (.call c_normal (.cons (.v 1) (.cons (.v 2) (.cons (.v 3) .nil)))))
    .nil)) y_KeeperError n_KeeperError 6 (.cons (.ret (.tup (.cons (.c (.str "refused")) (.cons (.call c__law_word (.cons (.v 6) .nil)) .nil))))
    .nil))
    (.cons (.ret (.tup (.cons (.c (.str "told")) (.cons (.tup (.cons (.ix (.v 4) (.c (.int 0))) (.cons (.ix (.v 5) (.c (.int 0))) (.cons (.ix (.v 4) (.c (.int 1))) (.cons (.ix (.v 5) (.c (.int 1))) (.cons (.call c_parting (.cons (.ix (.v 4) (.c (.int 0))) (.cons (.ix (.v 5) (.c (.int 0))) .nil))) .nil)))))) .nil))))
    .nil))
/- _law_told(_law_one, _law_other_here, _law_fuel, _law_book_here): 0 _law_one, 1 _law_other_here, 2 _law_fuel, 3 _law_book_here, 4 _law_e -/
def m_l_told_v11 (c_compared c__law_word : Nat) (y_KeeperError n_KeeperError : List Nat) : Sms :=
    (.cons (.tryA (.cons (.ret (.tup (.cons (.c (.str "told")) (.cons (.call c_compared (.cons (.v 0) (.cons (.v 1) (.cons (.v 2) (.cons (.v 3) .nil))))) .nil))))
    .nil) y_KeeperError n_KeeperError 4 (.cons (.ret (.tup (.cons (.c (.str "refused")) (.cons (.call c__law_word (.cons (.v 4) .nil)) .nil))))
    .nil))
    .nil)
/- _law_alike(_law_one, _law_other_here, _law_fuel, _law_book_here): 0 _law_one, 1 _law_other_here, 2 _law_fuel, 3 _law_book_here, 4 _law_found, 5 _law_e -/
def m_l_alike_v3 (c_alike c__law_word : Nat) (y_KeeperError n_KeeperError : List Nat) : Sms :=
    (.cons (.tryA (.cons (.asg (.nm 4) (.call c_alike (.cons (.v 0) (.cons (.v 1) (.cons (.v 2) (.cons (.v 3) .nil))))))
    .nil) y_KeeperError n_KeeperError 5 (.cons (.ret (.call c__law_word (.cons (.v 5) .nil)))
    .nil))
    (.cons (.ift (.not' (.isi (.v 4) .bool)) (.cons (.ret (.c (.str "other")))
    .nil) .nil)
    (.cons (.ret (.ix (.lst (.cons (.c (.str "unlike")) (.cons (.c (.str "alike")) .nil))) (.bi .int (.cons (.v 4) .nil))))
    .nil)))
/- _law_drawn(_law_script, _law_tape, _law_pool_here, _law_book_here, _law_fuel): 0 _law_script, 1 _law_tape, 2 _law_pool_here, 3 _law_book_here, 4 _law_fuel, 5 _law_near, 6 _law_way, 7 _law_one, 8 _law_other_here -/
def m_l_drawn (c__law_great c__law_draw c__law_measured c__law_sized c__law_other c__law_kind c__law_term : Nat) : Sms :=
    (.cons (.asg (.nm 5) (.ix (.lst (.cons (.c (.int 0)) (.cons (.c (.int 3)) (.cons (.c (.int 90)) .nil)))) (.call c__law_draw (.cons (.v 0) (.cons (.v 1) (.cons (.c (.int 3)) .nil))))))
    (.cons (.asg (.nm 6) (.call c__law_draw (.cons (.v 0) (.cons (.v 1) (.cons (.c (.int 8)) .nil)))))
    (.cons (.asg (.nm 7) (.call c__law_term (.cons (.v 0) (.cons (.v 1) (.cons (.bin .add (.c (.int 1)) (.bin .mod (.v 4) (.c (.int 4)))) (.cons (.v 5) (.cons (.v 2) .nil)))))))
    (.cons (.asg (.nm 8) (.call c__law_term (.cons (.v 0) (.cons (.v 1) (.cons (.bin .add (.c (.int 1)) (.bin .mod (.v 4) (.c (.int 4)))) (.cons (.v 5) (.cons (.v 2) .nil)))))))
    (.cons (.ift (.cmp .eq (.bin .mod (.v 6) (.c (.int 4))) (.c (.int 3))) (.cons (.asg (.nm 7) (.call c__law_kind (.cons (.v 0) (.cons (.v 1) (.cons (.bin .add (.c (.int 1)) (.bin .mod (.v 4) (.c (.int 4)))) (.cons (.v 5) (.cons (.v 2) .nil)))))))
    (.cons (.asg (.nm 8) (.call c__law_kind (.cons (.v 0) (.cons (.v 1) (.cons (.bin .add (.c (.int 1)) (.bin .mod (.v 4) (.c (.int 4)))) (.cons (.v 5) (.cons (.v 2) .nil)))))))
    .nil)) .nil)
    (.cons (.ift (.or' (.call c__law_great (.cons (.v 7) .nil)) (.call c__law_great (.cons (.v 8) .nil))) (.cons (.ret (.tup (.cons (.tup (.cons (.c (.str "zero")) .nil)) (.cons (.tup (.cons (.c (.str "zero")) .nil)) .nil))))
    .nil) .nil)
    (.cons (.ift (.cmp .lt (.v 6) (.c (.int 6))) (.cons (.asg (.nm 8) (.call c__law_other (.cons (.v 0) (.cons (.v 1) (.cons (.v 7) (.cons (.v 3) .nil))))))
    .nil) .nil)
    (.cons (.ift (.and' (.cmp .eq (.v 6) (.c (.int 0))) (.and' (.cmp .lt (.ix (.call c__law_measured (.cons (.v 8) .nil)) (.c (.int 1))) (.c (.int 40))) (.cmp .lt (.ix (.call c__law_measured (.cons (.v 8) .nil)) (.c (.int 0))) (.c (.int 600))))) (.cons (.asg (.nm 8) (.tup (.cons (.c (.str "next")) (.cons (.v 8) .nil))))
    .nil) .nil)
    (.cons (.ift (.and' (.cmp .lt (.bin .mod (.v 6) (.c (.int 4))) (.c (.int 3))) (.and' (.cmp .eq (.call c__law_draw (.cons (.v 0) (.cons (.v 1) (.cons (.c (.int 8)) .nil)))) (.c (.int 0))) (.cmp .lt (.bin .add (.ix (.call c__law_measured (.cons (.v 7) .nil)) (.c (.int 0))) (.ix (.call c__law_measured (.cons (.v 8) .nil)) (.c (.int 0)))) (.c (.int 300))))) (.cons (.asg (.nm 7) (.tup (.cons (.c (.str "pair")) (.cons (.tup (.cons (.c (.str "nat")) .nil)) (.cons (.call c__law_sized (.cons (.bin .add (.c (.int 200)) (.bin .mul (.v 4) (.c (.int 5)))) .nil)) (.cons (.v 7) .nil))))))
    (.cons (.asg (.nm 8) (.tup (.cons (.c (.str "pair")) (.cons (.tup (.cons (.c (.str "nat")) .nil)) (.cons (.call c__law_sized (.cons (.bin .add (.c (.int 200)) (.bin .mul (.call c__law_draw (.cons (.v 0) (.cons (.v 1) (.cons (.c (.int 21)) .nil)))) (.c (.int 5)))) .nil)) (.cons (.v 8) .nil))))))
    .nil)) .nil)
    (.cons (.ift (.or' (.call c__law_great (.cons (.v 7) .nil)) (.call c__law_great (.cons (.v 8) .nil))) (.cons (.ret (.tup (.cons (.tup (.cons (.c (.str "zero")) .nil)) (.cons (.tup (.cons (.c (.str "zero")) .nil)) .nil))))
    .nil) .nil)
    (.cons (.ret (.tup (.cons (.v 7) (.cons (.v 8) .nil))))
    .nil)))))))))))
/- _law_both(_law_script, _law_tape, _law_pool_here, _law_book_here): 0 _law_script, 1 _law_tape, 2 _law_pool_here, 3 _law_book_here, 4 _law_fuel, 5 _law_one, 6 _law_other_here, 7 _law_many, 8 _law_last -/
def m_l_both (c__law_draw c__law_unlike_ends c__law_chain c__law_drawn : Nat) : Sms :=
    (.cons (.asg (.nm 4) (.call c__law_draw (.cons (.v 0) (.cons (.v 1) (.cons (.c (.int 21)) .nil)))))
    (.cons (.asg (.tp [5, 6]) (.call c__law_drawn (.cons (.v 0) (.cons (.v 1) (.cons (.v 2) (.cons (.v 3) (.cons (.v 4) .nil)))))))
    (.cons (.ift (.cmp .eq (.call c__law_draw (.cons (.v 0) (.cons (.v 1) (.cons (.c (.int 8)) .nil)))) (.c (.int 0))) (.cons (.asg (.nm 7) (.call c__law_draw (.cons (.v 0) (.cons (.v 1) (.cons (.c (.int 130)) .nil)))))
    (.cons (.asg (.nm 8) (.call c__law_chain (.cons (.v 7) (.cons (.v 3) .nil))))
    (.cons (.setI (.v 3) (.v 8) (.tup (.cons (.tup (.cons (.c (.str "nat")) .nil)) (.cons (.tup (.cons (.c (.str "zero")) .nil)) .nil))))
    (.cons (.asg (.nm 5) (.tup (.cons (.c (.str "name")) (.cons (.c (.str "qaa")) .nil))))
    (.cons (.asg (.nm 6) (.ix (.lst (.cons (.tup (.cons (.c (.str "zero")) .nil)) (.cons (.tup (.cons (.c (.str "name")) (.cons (.v 8) .nil))) (.cons (.tup (.cons (.c (.str "next")) (.cons (.v 5) .nil))) (.cons (.tup (.cons (.c (.str "name")) (.cons (.c (.str "qab")) .nil))) .nil))))) (.call c__law_draw (.cons (.v 0) (.cons (.v 1) (.cons (.c (.int 4)) .nil))))))
    (.cons (.asg (.nm 4) (.bi .max2 (.cons (.c (.int 0)) (.cons (.bin .sub (.bin .add (.v 7) (.c (.int 2))) (.call c__law_draw (.cons (.v 0) (.cons (.v 1) (.cons (.c (.int 4)) .nil))))) .nil))))
    .nil)))))) .nil)
    (.cons (.ift (.cmp .eq (.call c__law_draw (.cons (.v 0) (.cons (.v 1) (.cons (.c (.int 9)) .nil)))) (.c (.int 0))) (.cons (.asg (.tp [5, 6]) (.call c__law_unlike_ends (.cons (.v 0) (.cons (.v 1) (.cons (.v 2) (.cons (.v 3) .nil))))))
    .nil) .nil)
    (.cons (.ret (.tup (.cons (.v 5) (.cons (.v 6) (.cons (.v 4) .nil)))))
    .nil)))))
/- law(_law_script): 0 _law_script, 1 _law_tape, 2 _law_pool_here, 3 _law_book_here, 4 _law_one, 5 _law_other_here, 6 _law_fuel, 7 _law_due_here, 8 _law_handed, 9 _law_found, 10 _law_word_here, 11 _law_again, 12 _law_second -/
def m_law_v13 (c__law_told c__law_due c__law_alike c__law_both c__law_book c__law_pool : Nat) : Sms :=
    (.cons (.asg (.nm 1) (.lst (.cons (.c (.int 0)) .nil)))
    (.cons (.asg (.nm 2) (.call c__law_pool (.cons (.v 0) (.cons (.v 1) .nil))))
    (.cons (.asg (.nm 3) (.call c__law_book (.cons (.v 0) (.cons (.v 1) (.cons (.v 2) .nil)))))
    (.cons (.asg (.tp [4, 5, 6]) (.call c__law_both (.cons (.v 0) (.cons (.v 1) (.cons (.v 2) (.cons (.v 3) .nil))))))
    (.cons (.asg (.nm 7) (.call c__law_due (.cons (.v 4) (.cons (.v 5) (.cons (.v 6) (.cons (.v 3) .nil))))))
    (.cons (.asg (.nm 8) (.bi .dict (.cons (.v 3) .nil)))
    (.cons (.asg (.nm 9) (.call c__law_told (.cons (.v 4) (.cons (.v 5) (.cons (.v 6) (.cons (.v 8) .nil))))))
    (.cons (.ift (.or' (.cmp .ne (.v 9) (.v 7)) (.cmp .ne (.v 8) (.v 3))) (.cons (.ret (.c (.bool false)))
    .nil) .nil)
    (.cons (.asg (.nm 10) (.ix (.v 7) (.c (.int 1))))
    (.cons (.ift (.cmp .eq (.ix (.v 7) (.c (.int 0))) (.c (.str "told"))) (.cons (.asg (.nm 10) (.ix (.lst (.cons (.c (.str "unlike")) (.cons (.c (.str "alike")) .nil))) (.bi .int (.cons (.cmp .is (.ix (.ix (.v 7) (.c (.int 1))) (.c (.int 4))) (.c .none)) .nil))))
    (.cons (.ift (.not' (.isi (.ix (.v 9) (.c (.int 1))) .tup)) (.cons (.ret (.c (.bool false)))
    .nil) .nil)
    (.cons (.ift (.or' (.not' (.isi (.ix (.ix (.v 9) (.c (.int 1))) (.c (.int 2))) .lst)) (.not' (.isi (.ix (.ix (.v 9) (.c (.int 1))) (.c (.int 3))) .lst))) (.cons (.ret (.c (.bool false)))
    .nil) .nil)
    (.cons (.ex (.mth .append (.ix (.ix (.v 9) (.c (.int 1))) (.c (.int 2))) (.cons (.tup (.cons (.tup .nil) (.cons (.c (.str "fun")) .nil))) .nil)))
    (.cons (.ex (.mth .append (.ix (.ix (.v 9) (.c (.int 1))) (.c (.int 3))) (.cons (.tup (.cons (.tup .nil) (.cons (.c (.str "name")) .nil))) .nil)))
    .nil))))) .nil)
    (.cons (.ift (.cmp .ne (.call c__law_alike (.cons (.v 4) (.cons (.v 5) (.cons (.v 6) (.cons (.v 8) .nil))))) (.v 10)) (.cons (.ret (.c (.bool false)))
    .nil) .nil)
    (.cons (.asg (.nm 11) (.call c__law_due (.cons (.v 4) (.cons (.v 5) (.cons (.v 6) (.cons (.v 3) .nil))))))
    (.cons (.asg (.nm 12) (.call c__law_told (.cons (.v 4) (.cons (.v 5) (.cons (.v 6) (.cons (.v 8) .nil))))))
    (.cons (.ex (.call c__law_told (.cons (.tup (.cons (.c (.str "zero")) .nil)) (.cons (.tup (.cons (.c (.str "first")) (.cons (.tup (.cons (.c (.str "pair")) (.cons (.tup (.cons (.c (.str "nat")) .nil)) (.cons (.tup (.cons (.c (.str "zero")) .nil)) (.cons (.tup (.cons (.c (.str "zero")) .nil)) .nil))))) .nil))) (.cons (.c (.int 3)) (.cons (.v 8) .nil))))))
    (.cons (.ret (.cmp .eq (.v 12) (.v 11)))
    .nil)))))))))))))))
/- leads(thing, log, end, book): 0 thing, 1 log, 2 end, 3 book, 4 found -/
def m_leads (c_steps_of c_walked : Nat) (y_KeeperError n_KeeperError : List Nat) : Sms :=
    (.cons (.tryM (.cons (.asg (.nm 4) (.call c_walked (.cons (.v 0) (.cons (.v 1) (.cons (.v 3) .nil)))))
    .nil) (.cons y_KeeperError n_KeeperError (.cons (.ret (.c (.bool false)))
    .nil)
    .nil))
    (.cons (.ret (.and' (.cmp .eq (.v 4) (.v 2)) (.cmp .eq (.call c_steps_of (.cons (.v 2) (.cons (.v 3) .nil))) (.lst .nil))))
    .nil))
/- shows(one, other, told, book): 0 one, 1 other, 2 told, 3 book -/
def m_shows (c_parting c_leads : Nat) : Sms :=
    (.cons (.ift (.or' (.not' (.call c_leads (.cons (.v 0) (.cons (.ix (.v 2) (.c (.int 2))) (.cons (.ix (.v 2) (.c (.int 0))) (.cons (.v 3) .nil)))))) (.not' (.call c_leads (.cons (.v 1) (.cons (.ix (.v 2) (.c (.int 3))) (.cons (.ix (.v 2) (.c (.int 1))) (.cons (.v 3) .nil))))))) (.cons (.ret (.c (.bool false)))
    .nil) .nil)
    (.cons (.ret (.cmp .eq (.call c_parting (.cons (.ix (.v 2) (.c (.int 0))) (.cons (.ix (.v 2) (.c (.int 1))) .nil))) (.ix (.v 2) (.c (.int 4)))))
    .nil))
/- _law_parted(_law_script, _law_tape, _law_deep, _law_near, _law_pool_here, _law_way_here): 0 _law_script, 1 _law_tape, 2 _law_deep, 3 _law_near, 4 _law_pool_here, 5 _law_way_here, 6 _law_kind_here, 7 _law_first, 8 _law_second, 9 _law_word -/
def m_l_parted_v2 (c__law_number c__law_term c__law_like c__law_kind c__law_pair c__law_draw c__law_fun : Nat) : Sms :=
    (.cons (.ift (.cmp .eq (.v 5) (.c (.int 0))) (.cons (.ret (.tup (.cons (.c (.str "app")) (.cons (.call c__law_fun (.cons (.v 0) (.cons (.v 1) (.cons (.v 2) (.cons (.v 3) (.cons (.v 4) .nil)))))) (.cons (.call c__law_term (.cons (.v 0) (.cons (.v 1) (.cons (.bin .sub (.v 2) (.c (.int 1))) (.cons (.v 3) (.cons (.v 4) .nil)))))) .nil)))))
    .nil) .nil)
    (.cons (.ift (.cmp .eq (.v 5) (.c (.int 1))) (.cons (.asg (.nm 9) (.ix (.lst (.cons (.c (.str "first")) (.cons (.c (.str "second")) .nil))) (.call c__law_draw (.cons (.v 0) (.cons (.v 1) (.cons (.c (.int 2)) .nil))))))
    (.cons (.ret (.tup (.cons (.v 9) (.cons (.call c__law_pair (.cons (.v 0) (.cons (.v 1) (.cons (.v 2) (.cons (.v 3) (.cons (.v 4) .nil)))))) .nil))))
    .nil)) .nil)
    (.cons (.asg (.nm 6) (.call c__law_kind (.cons (.v 0) (.cons (.v 1) (.cons (.bin .sub (.v 2) (.c (.int 2))) (.cons (.bin .add (.v 3) (.c (.int 1))) (.cons (.v 4) .nil)))))))
    (.cons (.asg (.nm 7) (.call c__law_term (.cons (.v 0) (.cons (.v 1) (.cons (.bin .sub (.v 2) (.c (.int 1))) (.cons (.v 3) (.cons (.v 4) .nil)))))))
    (.cons (.ift (.cmp .eq (.v 5) (.c (.int 2))) (.cons (.ret (.tup (.cons (.c (.str "carry")) (.cons (.v 6) (.cons (.v 7) (.cons (.call c__law_like (.cons (.v 0) (.cons (.v 1) (.cons (.v 2) (.cons (.v 3) (.cons (.v 4) .nil)))))) .nil))))))
    .nil) .nil)
    (.cons (.asg (.nm 8) (.call c__law_term (.cons (.v 0) (.cons (.v 1) (.cons (.bin .sub (.v 2) (.c (.int 1))) (.cons (.v 3) (.cons (.v 4) .nil)))))))
    (.cons (.ret (.tup (.cons (.c (.str "rec")) (.cons (.v 6) (.cons (.v 7) (.cons (.v 8) (.cons (.call c__law_number (.cons (.v 0) (.cons (.v 1) (.cons (.v 2) (.cons (.v 3) (.cons (.v 4) .nil)))))) .nil)))))))
    .nil)))))))
/- _law_still(_law_script, _law_tape, _law_deep, _law_near, _law_pool_here, _law_way_here): 0 _law_script, 1 _law_tape, 2 _law_deep, 3 _law_near, 4 _law_pool_here, 5 _law_way_here, 6 _law_one, 7 _law_two, 8 _law_three -/
def m_l_still_v2 (c__law_kind c__law_term c__law_draw c__law_like c__law_pair c__law_fun : Nat) : Sms :=
    (.cons (.ift (.cmp .lt (.v 5) (.c (.int 2))) (.cons (.ret (.tup (.cons (.c (.str "next")) (.cons (.call c__law_term (.cons (.v 0) (.cons (.v 1) (.cons (.bin .sub (.v 2) (.c (.int 1))) (.cons (.v 3) (.cons (.v 4) .nil)))))) .nil))))
    .nil) .nil)
    (.cons (.ift (.cmp .eq (.v 5) (.c (.int 2))) (.cons (.ret (.call c__law_fun (.cons (.v 0) (.cons (.v 1) (.cons (.v 2) (.cons (.v 3) (.cons (.v 4) .nil)))))))
    .nil) .nil)
    (.cons (.ift (.cmp .eq (.v 5) (.c (.int 3))) (.cons (.ret (.call c__law_pair (.cons (.v 0) (.cons (.v 1) (.cons (.v 2) (.cons (.v 3) (.cons (.v 4) .nil)))))))
    .nil) .nil)
    (.cons (.ift (.cmp .eq (.v 5) (.c (.int 4))) (.cons (.ret (.call c__law_like (.cons (.v 0) (.cons (.v 1) (.cons (.v 2) (.cons (.v 3) (.cons (.v 4) .nil)))))))
    .nil) .nil)
    (.cons (.asg (.nm 6) (.call c__law_term (.cons (.v 0) (.cons (.v 1) (.cons (.bin .sub (.v 2) (.c (.int 1))) (.cons (.v 3) (.cons (.v 4) .nil)))))))
    (.cons (.ift (.cmp .eq (.v 5) (.c (.int 5))) (.cons (.ret (.tup (.cons (.c (.str "never")) (.cons (.call c__law_kind (.cons (.v 0) (.cons (.v 1) (.cons (.bin .sub (.v 2) (.c (.int 2))) (.cons (.v 3) (.cons (.v 4) .nil)))))) (.cons (.v 6) .nil)))))
    .nil) .nil)
    (.cons (.ift (.cmp .eq (.v 5) (.c (.int 6))) (.cons (.ret (.tup (.cons (.ix (.lst (.cons (.c (.str "first")) (.cons (.c (.str "second")) .nil))) (.call c__law_draw (.cons (.v 0) (.cons (.v 1) (.cons (.c (.int 2)) .nil))))) (.cons (.v 6) .nil))))
    .nil) .nil)
    (.cons (.asg (.nm 7) (.call c__law_term (.cons (.v 0) (.cons (.v 1) (.cons (.bin .sub (.v 2) (.c (.int 1))) (.cons (.v 3) (.cons (.v 4) .nil)))))))
    (.cons (.ift (.cmp .eq (.v 5) (.c (.int 7))) (.cons (.ret (.tup (.cons (.c (.str "app")) (.cons (.v 6) (.cons (.v 7) .nil)))))
    .nil) .nil)
    (.cons (.ift (.cmp .eq (.v 5) (.c (.int 8))) (.cons (.ret (.tup (.cons (.c (.str "carry")) (.cons (.call c__law_kind (.cons (.v 0) (.cons (.v 1) (.cons (.bin .sub (.v 2) (.c (.int 2))) (.cons (.bin .add (.v 3) (.c (.int 1))) (.cons (.v 4) .nil)))))) (.cons (.v 6) (.cons (.v 7) .nil))))))
    .nil) .nil)
    (.cons (.asg (.nm 8) (.call c__law_term (.cons (.v 0) (.cons (.v 1) (.cons (.bin .sub (.v 2) (.c (.int 1))) (.cons (.v 3) (.cons (.v 4) .nil)))))))
    (.cons (.ret (.tup (.cons (.c (.str "rec")) (.cons (.call c__law_kind (.cons (.v 0) (.cons (.v 1) (.cons (.bin .sub (.v 2) (.c (.int 2))) (.cons (.bin .add (.v 3) (.c (.int 1))) (.cons (.v 4) .nil)))))) (.cons (.v 6) (.cons (.v 7) (.cons (.v 8) .nil)))))))
    .nil))))))))))))
/- _law_way(_law_script, _law_tape, _law_thing_here, _law_book_here, _law_most): 0 _law_script, 1 _law_tape, 2 _law_thing_here, 3 _law_book_here, 4 _law_most, 5 _law_log, 6 _law_turn, 7 _law_rows_here, 8 _law_row -/
def m_l_way (c_stepped c__law_draw c_steps_of : Nat) (y_Great n_Great : List Nat) : Sms :=
    (.cons (.asg (.nm 5) (.lst .nil))
    (.cons (.for' (.nm 6) (.rng1 (.v 4)) (.cons (.asg (.nm 7) (.call c_steps_of (.cons (.v 2) (.cons (.v 3) .nil))))
    (.cons (.ift (.cmp .eq (.v 7) (.lst .nil)) (.cons (.ret (.tup (.cons (.v 2) (.cons (.v 5) .nil))))
    .nil) .nil)
    (.cons (.asg (.nm 8) (.ix (.v 7) (.bin .mod (.call c__law_draw (.cons (.v 0) (.cons (.v 1) (.cons (.c (.int 1000)) .nil)))) (.bi .len (.cons (.v 7) .nil)))))
    (.cons (.tryM (.cons (.asg (.nm 2) (.call c_stepped (.cons (.v 2) (.cons (.ix (.v 8) (.c (.int 0))) (.cons (.v 3) .nil)))))
    .nil) (.cons y_Great n_Great (.cons (.ret (.tup (.cons (.v 2) (.cons (.v 5) .nil))))
    .nil)
    .nil))
    (.cons (.ex (.mth .append (.v 5) (.cons (.v 8) .nil)))
    .nil))))))
    (.cons (.ret (.tup (.cons (.v 2) (.cons (.v 5) .nil))))
    .nil)))
/- _law_leads(_law_thing_here, _law_log, _law_end, _law_book_here): 0 _law_thing_here, 1 _law_log, 2 _law_end, 3 _law_book_here, 4 _law_place, 5 _law_rule_here -/
def m_l_leads (c_steps_of c_stepped : Nat) (y_Great n_Great : List Nat) : Sms :=
    (.cons (.for' (.tp [4, 5]) (.val (.v 1)) (.cons (.ift (.cmp .nin (.tup (.cons (.v 4) (.cons (.v 5) .nil))) (.call c_steps_of (.cons (.v 0) (.cons (.v 3) .nil)))) (.cons (.ret (.c (.bool false)))
    .nil) .nil)
    (.cons (.tryM (.cons (.asg (.nm 0) (.call c_stepped (.cons (.v 0) (.cons (.v 4) (.cons (.v 3) .nil)))))
    .nil) (.cons y_Great n_Great (.cons (.ret (.c (.bool false)))
    .nil)
    .nil))
    .nil)))
    (.cons (.ret (.and' (.cmp .eq (.v 0) (.v 2)) (.cmp .eq (.call c_steps_of (.cons (.v 2) (.cons (.v 3) .nil))) (.lst .nil))))
    .nil))
/- _law_partings(_law_one, _law_other): 0 _law_one, 1 _law_other, 2 _law_found, 3 _law_waiting, 4 _law_place, 5 _law_here, 6 _law_there, 7 _law_kids_here, 8 _law_step, 9 _law_number_here -/
def m_l_partings (c__law_kids : Nat) : Sms :=
    (.cons (.asg (.nm 2) (.lst .nil))
    (.cons (.asg (.nm 3) (.lst (.cons (.tup (.cons (.tup .nil) (.cons (.v 0) (.cons (.v 1) .nil)))) .nil)))
    (.cons (.while (.cmp .gt (.bi .len (.cons (.v 3) .nil)) (.c (.int 0))) (.cons (.asg (.tp [4, 5, 6]) (.mth .pop0 (.v 3) .nil))
    (.cons (.ift (.or' (.cmp .ne (.ix (.v 5) (.c (.int 0))) (.ix (.v 6) (.c (.int 0)))) (.and' (.cmp .inn (.ix (.v 5) (.c (.int 0))) (.tup (.cons (.c (.str "var")) (.cons (.c (.str "name")) .nil)))) (.cmp .ne (.ix (.v 5) (.c (.int 1))) (.ix (.v 6) (.c (.int 1)))))) (.cons (.ex (.mth .append (.v 2) (.cons (.v 4) .nil)))
    (.cons .cont
    .nil)) .nil)
    (.cons (.asg (.nm 7) (.call c__law_kids (.cons (.v 5) .nil)))
    (.cons (.for' (.nm 8) (.rng1 (.bi .len (.cons (.v 7) .nil))) (.cons (.asg (.nm 9) (.bin .sub (.bin .sub (.bi .len (.cons (.v 7) .nil)) (.c (.int 1))) (.v 8)))
    (.cons (.ex (.mth .append (.v 3) (.cons (.tup (.cons (.bin .add (.v 4) (.tup (.cons (.v 9) .nil))) (.cons (.ix (.v 7) (.v 9)) (.cons (.ix (.call c__law_kids (.cons (.v 6) .nil)) (.v 9)) .nil)))) .nil)))
    .nil)))
    .nil)))))
    (.cons (.ret (.v 2))
    .nil))))
/- _law_spoilt_log(_law_script, _law_tape, _law_log, _law_way_here): 0 _law_script, 1 _law_tape, 2 _law_log, 3 _law_way_here, 4 _law_at, 5 _law_words, 6 _law_row -/
def m_l_spoilt_log (c__law_draw : Nat) : Sms :=
    (.cons (.ift (.cmp .eq (.v 2) (.lst .nil)) (.cons (.ret (.v 2))
    .nil) .nil)
    (.cons (.asg (.nm 4) (.bin .mod (.call c__law_draw (.cons (.v 0) (.cons (.v 1) (.cons (.c (.int 1000)) .nil)))) (.bi .len (.cons (.v 2) .nil))))
    (.cons (.ift (.cmp .eq (.v 3) (.c (.int 1))) (.cons (.ret (.bin .add (.sl (.v 2) .non (.one (.v 4))) (.sl (.v 2) (.one (.bin .add (.v 4) (.c (.int 1)))) .non)))
    .nil) .nil)
    (.cons (.ift (.cmp .eq (.v 3) (.c (.int 2))) (.cons (.ret (.bin .add (.bin .add (.sl (.v 2) .non (.one (.v 4))) (.lst (.cons (.ix (.v 2) (.v 4)) .nil))) (.sl (.v 2) (.one (.v 4)) .non)))
    .nil) .nil)
    (.cons (.asg (.nm 5) (.lst (.cons (.c (.str "fun")) (.cons (.c (.str "zero")) (.cons (.c (.str "next")) (.cons (.c (.str "like")) (.cons (.c (.str "first")) (.cons (.c (.str "second")) (.cons (.c (.str "name")) .nil)))))))))
    (.cons (.asg (.nm 6) (.tup (.cons (.ix (.ix (.v 2) (.v 4)) (.c (.int 0))) (.cons (.ix (.v 5) (.call c__law_draw (.cons (.v 0) (.cons (.v 1) (.cons (.c (.int 7)) .nil))))) .nil))))
    (.cons (.ret (.bin .add (.bin .add (.sl (.v 2) .non (.one (.v 4))) (.lst (.cons (.v 6) .nil))) (.sl (.v 2) (.one (.bin .add (.v 4) (.c (.int 1)))) .non)))
    .nil)))))))
/- _law_spoilt(_law_script, _law_tape, _law_told_here): 0 _law_script, 1 _law_tape, 2 _law_told_here, 3 _law_way_here, 4 _law_side, 5 _law_parts, 6 _law_some -/
def m_l_spoilt_v3 (c__law_draw c__law_spoilt_log c__law_partings : Nat) : Sms :=
    (.cons (.asg (.nm 3) (.call c__law_draw (.cons (.v 0) (.cons (.v 1) (.cons (.c (.int 12)) .nil)))))
    (.cons (.asg (.nm 4) (.call c__law_draw (.cons (.v 0) (.cons (.v 1) (.cons (.c (.int 2)) .nil)))))
    (.cons (.asg (.nm 5) (.bi .lst (.cons (.v 2) .nil)))
    (.cons (.asg (.nm 6) (.call c__law_partings (.cons (.ix (.v 2) (.c (.int 0))) (.cons (.ix (.v 2) (.c (.int 1))) .nil))))
    (.cons (.ift (.cmp .eq (.v 3) (.c (.int 0))) (.cons (.setI (.v 5) (.v 4) (.ix (.v 2) (.bin .sub (.c (.int 1)) (.v 4))))
    .nil) .nil)
    (.cons (.ift (.cmp .inn (.v 3) (.tup (.cons (.c (.int 1)) (.cons (.c (.int 2)) (.cons (.c (.int 3)) .nil))))) (.cons (.setI (.v 5) (.bin .add (.c (.int 2)) (.v 4)) (.call c__law_spoilt_log (.cons (.v 0) (.cons (.v 1) (.cons (.bi .lst (.cons (.ix (.v 2) (.bin .add (.c (.int 2)) (.v 4))) .nil)) (.cons (.v 3) .nil))))))
    .nil) .nil)
    (.cons (.ift (.cmp .eq (.v 3) (.c (.int 4))) (.cons (.setI (.v 5) (.c (.int 4)) (.ix (.lst (.cons (.c .none) (.cons (.tup .nil) (.cons (.tup (.cons (.c (.int 0)) .nil)) (.cons (.tup (.cons (.c (.int 1)) (.cons (.c (.int 0)) .nil))) .nil))))) (.call c__law_draw (.cons (.v 0) (.cons (.v 1) (.cons (.c (.int 4)) .nil))))))
    .nil) .nil)
    (.cons (.ift (.and' (.cmp .eq (.v 3) (.c (.int 5))) (.cmp .isn (.ix (.v 2) (.c (.int 4))) (.c .none))) (.cons (.setI (.v 5) (.c (.int 4)) (.bin .add (.ix (.v 2) (.c (.int 4))) (.tup (.cons (.c (.int 0)) .nil))))
    .nil) .nil)
    (.cons (.ift (.and' (.cmp .eq (.v 3) (.c (.int 6))) (.cmp .isn (.ix (.v 2) (.c (.int 4))) (.c .none))) (.cons (.setI (.v 5) (.c (.int 4)) (.sl (.ix (.v 2) (.c (.int 4))) .non (.one (.neg (.c (.int 1))))))
    .nil) .nil)
    (.cons (.ift (.and' (.cmp .inn (.v 3) (.tup (.cons (.c (.int 7)) (.cons (.c (.int 8)) .nil)))) (.cmp .ne (.v 6) (.lst .nil))) (.cons (.setI (.v 5) (.c (.int 4)) (.ix (.v 6) (.bin .mod (.call c__law_draw (.cons (.v 0) (.cons (.v 1) (.cons (.c (.int 1000)) .nil)))) (.bi .len (.cons (.v 6) .nil)))))
    .nil) .nil)
    (.cons (.ret (.bi .tup (.cons (.v 5) .nil)))
    .nil)))))))))))
/- _law_over(_law_script, _law_tape): 0 _law_script, 1 _law_tape, 2 _law_twice, 3 _law_one, 4 _law_log -/
def m_l_over_v3 (c__law_draw c__law_sized : Nat) : Sms :=
    (.cons (.asg (.nm 2) (.tup (.cons (.c (.str "app")) (.cons (.tup (.cons (.c (.str "fun")) (.cons (.tup (.cons (.c (.str "nat")) .nil)) (.cons (.tup (.cons (.c (.str "app")) (.cons (.tup (.cons (.c (.str "var")) (.cons (.c (.int 0)) .nil))) (.cons (.tup (.cons (.c (.str "var")) (.cons (.c (.int 0)) .nil))) .nil)))) .nil)))) (.cons (.call c__law_sized (.cons (.c (.int 301)) .nil)) .nil)))))
    (.cons (.asg (.nm 3) (.tup (.cons (.c (.str "first")) (.cons (.tup (.cons (.c (.str "pair")) (.cons (.tup (.cons (.c (.str "nat")) .nil)) (.cons (.tup (.cons (.c (.str "zero")) .nil)) (.cons (.v 2) .nil))))) .nil))))
    (.cons (.asg (.nm 4) (.ix (.lst (.cons (.lst (.cons (.tup (.cons (.tup .nil) (.cons (.c (.str "first")) .nil))) .nil)) (.cons (.lst (.cons (.tup (.cons (.tup (.cons (.c (.int 0)) (.cons (.c (.int 2)) .nil))) (.cons (.c (.str "fun")) .nil))) (.cons (.tup (.cons (.tup .nil) (.cons (.c (.str "first")) .nil))) .nil))) .nil))) (.call c__law_draw (.cons (.v 0) (.cons (.v 1) (.cons (.c (.int 2)) .nil))))))
    (.cons (.ift (.cmp .eq (.call c__law_draw (.cons (.v 0) (.cons (.v 1) (.cons (.c (.int 2)) .nil)))) (.c (.int 0))) (.cons (.ret (.tup (.cons (.v 3) (.cons (.tup (.cons (.c (.str "zero")) .nil)) (.cons (.tup (.cons (.tup (.cons (.c (.str "zero")) .nil)) (.cons (.tup (.cons (.c (.str "zero")) .nil)) (.cons (.v 4) (.cons (.lst .nil) (.cons (.c .none) .nil)))))) .nil)))))
    .nil) .nil)
    (.cons (.ret (.tup (.cons (.tup (.cons (.c (.str "zero")) .nil)) (.cons (.v 3) (.cons (.tup (.cons (.tup (.cons (.c (.str "zero")) .nil)) (.cons (.tup (.cons (.c (.str "zero")) .nil)) (.cons (.lst .nil) (.cons (.v 4) (.cons (.c .none) .nil)))))) .nil)))))
    .nil)))))
/- _law_told(_law_script, _law_tape, _law_one, _law_other, _law_book_here, _law_most): 0 _law_script, 1 _law_tape, 2 _law_one, 3 _law_other, 4 _law_book_here, 5 _law_most, 6 _law_here, 7 _law_there -/
def m_l_told_v4 (c_parting c__law_way c__law_draw c_compared : Nat) (y_KeeperError n_KeeperError : List Nat) : Sms :=
    (.cons (.ift (.cmp .eq (.call c__law_draw (.cons (.v 0) (.cons (.v 1) (.cons (.c (.int 2)) .nil)))) (.c (.int 0))) (.cons (.tryM (.cons (.ret (.call c_compared (.cons (.v 2) (.cons (.v 3) (.cons (.v 5) (.cons (.v 4) .nil))))))
    .nil) (.cons y_KeeperError n_KeeperError (.cons (.ret (.c .none))
    .nil)
    .nil))
    .nil) .nil)
    (.cons (.asg (.nm 6) (.call c__law_way (.cons (.v 0) (.cons (.v 1) (.cons (.v 2) (.cons (.v 4) (.cons (.v 5) .nil)))))))
    (.cons (.asg (.nm 7) (.call c__law_way (.cons (.v 0) (.cons (.v 1) (.cons (.v 3) (.cons (.v 4) (.cons (.v 5) .nil)))))))
    (.cons (.ret (.tup (.cons (.ix (.v 6) (.c (.int 0))) (.cons (.ix (.v 7) (.c (.int 0))) (.cons (.ix (.v 6) (.c (.int 1))) (.cons (.ix (.v 7) (.c (.int 1))) (.cons (.call c_parting (.cons (.ix (.v 6) (.c (.int 0))) (.cons (.ix (.v 7) (.c (.int 0))) .nil))) .nil)))))))
    .nil))))
/- _law_right(_law_one, _law_other, _law_told_here, _law_book_here): 0 _law_one, 1 _law_other, 2 _law_told_here, 3 _law_book_here -/
def m_l_right_v2 (c_parting c__law_leads : Nat) : Sms :=
    (.cons (.ift (.not' (.call c__law_leads (.cons (.v 0) (.cons (.ix (.v 2) (.c (.int 2))) (.cons (.ix (.v 2) (.c (.int 0))) (.cons (.v 3) .nil)))))) (.cons (.ret (.c (.bool false)))
    .nil) .nil)
    (.cons (.ift (.not' (.call c__law_leads (.cons (.v 1) (.cons (.ix (.v 2) (.c (.int 3))) (.cons (.ix (.v 2) (.c (.int 1))) (.cons (.v 3) .nil)))))) (.cons (.ret (.c (.bool false)))
    .nil) .nil)
    (.cons (.ret (.cmp .eq (.call c_parting (.cons (.ix (.v 2) (.c (.int 0))) (.cons (.ix (.v 2) (.c (.int 1))) .nil))) (.ix (.v 2) (.c (.int 4)))))
    .nil)))
/- _law_drawn(_law_script, _law_tape, _law_pool_here, _law_book_here): 0 _law_script, 1 _law_tape, 2 _law_pool_here, 3 _law_book_here, 4 _law_near, 5 _law_deep, 6 _law_word, 7 _law_one, 8 _law_other, 9 _law_way_here -/
def m_l_drawn_v2 (c__law_way c__law_draw c__law_measured c__law_kind c__law_term : Nat) : Sms :=
    (.cons (.asg (.nm 4) (.ix (.lst (.cons (.c (.int 0)) (.cons (.c (.int 3)) .nil))) (.call c__law_draw (.cons (.v 0) (.cons (.v 1) (.cons (.c (.int 2)) .nil))))))
    (.cons (.asg (.nm 5) (.bin .add (.c (.int 1)) (.call c__law_draw (.cons (.v 0) (.cons (.v 1) (.cons (.c (.int 4)) .nil))))))
    (.cons (.asg (.nm 6) (.call c__law_draw (.cons (.v 0) (.cons (.v 1) (.cons (.c (.int 5)) .nil)))))
    (.cons (.asg (.nm 7) (.call c__law_term (.cons (.v 0) (.cons (.v 1) (.cons (.v 5) (.cons (.v 4) (.cons (.v 2) .nil)))))))
    (.cons (.asg (.nm 8) (.call c__law_term (.cons (.v 0) (.cons (.v 1) (.cons (.v 5) (.cons (.v 4) (.cons (.v 2) .nil)))))))
    (.cons (.ift (.cmp .eq (.v 6) (.c (.int 0))) (.cons (.asg (.nm 7) (.call c__law_kind (.cons (.v 0) (.cons (.v 1) (.cons (.v 5) (.cons (.v 4) (.cons (.v 2) .nil)))))))
    (.cons (.asg (.nm 8) (.call c__law_kind (.cons (.v 0) (.cons (.v 1) (.cons (.v 5) (.cons (.v 4) (.cons (.v 2) .nil)))))))
    .nil)) .nil)
    (.cons (.ift (.cmp .gt (.bin .add (.ix (.call c__law_measured (.cons (.v 7) .nil)) (.c (.int 0))) (.ix (.call c__law_measured (.cons (.v 8) .nil)) (.c (.int 0)))) (.c (.int 280))) (.cons (.ret (.tup (.cons (.tup (.cons (.c (.str "zero")) .nil)) (.cons (.tup (.cons (.c (.str "zero")) .nil)) .nil))))
    .nil) .nil)
    (.cons (.asg (.nm 9) (.call c__law_draw (.cons (.v 0) (.cons (.v 1) (.cons (.c (.int 6)) .nil)))))
    (.cons (.ift (.cmp .gt (.v 9) (.c (.int 2))) (.cons (.asg (.nm 8) (.ix (.call c__law_way (.cons (.v 0) (.cons (.v 1) (.cons (.v 7) (.cons (.v 3) (.cons (.c (.int 3)) .nil)))))) (.c (.int 0))))
    .nil) .nil)
    (.cons (.ift (.and' (.cmp .lt (.v 9) (.c (.int 2))) (.cmp .eq (.v 6) (.c (.int 0)))) (.cons (.ret (.tup (.cons (.tup (.cons (.c (.str "all")) (.cons (.v 7) (.cons (.v 8) .nil)))) (.cons (.tup (.cons (.c (.str "all")) (.cons (.v 8) (.cons (.v 7) .nil)))) .nil))))
    .nil) .nil)
    (.cons (.ift (.cmp .lt (.v 9) (.c (.int 2))) (.cons (.ret (.tup (.cons (.tup (.cons (.c (.str "pair")) (.cons (.tup (.cons (.c (.str "nat")) .nil)) (.cons (.v 7) (.cons (.v 8) .nil))))) (.cons (.tup (.cons (.c (.str "pair")) (.cons (.tup (.cons (.c (.str "nat")) .nil)) (.cons (.v 8) (.cons (.v 7) .nil))))) .nil))))
    .nil) .nil)
    (.cons (.ret (.tup (.cons (.v 7) (.cons (.v 8) .nil))))
    .nil))))))))))))
/- law(_law_script): 0 _law_script, 1 _law_tape, 2 _law_pool_here, 3 _law_book_here, 4 _law_one, 5 _law_other, 6 _law_most, 7 _law_told_here, 8 _law_due, 9 _law_handed, 10 _law_found, 11 _law_last -/
def m_law_v14 (c_shows c__law_right c__law_spoilt c__law_draw c__law_over c__law_told c__law_chain c__law_drawn c__law_book c__law_pool : Nat) : Sms :=
    (.cons (.asg (.nm 1) (.lst (.cons (.c (.int 0)) .nil)))
    (.cons (.asg (.nm 2) (.call c__law_pool (.cons (.v 0) (.cons (.v 1) .nil))))
    (.cons (.asg (.nm 3) (.call c__law_book (.cons (.v 0) (.cons (.v 1) (.cons (.v 2) .nil)))))
    (.cons (.asg (.tp [4, 5]) (.call c__law_drawn (.cons (.v 0) (.cons (.v 1) (.cons (.v 2) (.cons (.v 3) .nil))))))
    (.cons (.asg (.nm 6) (.c (.int 12)))
    (.cons (.ift (.cmp .eq (.call c__law_draw (.cons (.v 0) (.cons (.v 1) (.cons (.c (.int 9)) .nil)))) (.c (.int 0))) (.cons (.asg (.nm 11) (.call c__law_chain (.cons (.call c__law_draw (.cons (.v 0) (.cons (.v 1) (.cons (.c (.int 100)) .nil)))) (.cons (.v 3) .nil))))
    (.cons (.setI (.v 3) (.v 11) (.tup (.cons (.tup (.cons (.c (.str "nat")) .nil)) (.cons (.tup (.cons (.c (.str "zero")) .nil)) .nil))))
    (.cons (.asg (.nm 4) (.tup (.cons (.c (.str "name")) (.cons (.c (.str "qaa")) .nil))))
    (.cons (.asg (.nm 5) (.ix (.lst (.cons (.tup (.cons (.c (.str "next")) (.cons (.v 4) .nil))) (.cons (.tup (.cons (.c (.str "name")) (.cons (.c (.str "qab")) .nil))) .nil))) (.call c__law_draw (.cons (.v 0) (.cons (.v 1) (.cons (.c (.int 2)) .nil))))))
    (.cons (.asg (.nm 6) (.c (.int 101)))
    .nil))))) .nil)
    (.cons (.asg (.nm 7) (.call c__law_told (.cons (.v 0) (.cons (.v 1) (.cons (.v 4) (.cons (.v 5) (.cons (.v 3) (.cons (.v 6) .nil))))))))
    (.cons (.ift (.cmp .eq (.call c__law_draw (.cons (.v 0) (.cons (.v 1) (.cons (.c (.int 9)) .nil)))) (.c (.int 0))) (.cons (.asg (.tp [4, 5, 7]) (.call c__law_over (.cons (.v 0) (.cons (.v 1) .nil))))
    .nil) (.cons (.ift (.cmp .is (.v 7) (.c .none)) (.cons (.ret (.c (.bool true)))
    .nil) .nil)
    .nil))
    (.cons (.asg (.nm 7) (.call c__law_spoilt (.cons (.v 0) (.cons (.v 1) (.cons (.v 7) .nil)))))
    (.cons (.asg (.nm 8) (.call c__law_right (.cons (.v 4) (.cons (.v 5) (.cons (.v 7) (.cons (.v 3) .nil))))))
    (.cons (.asg (.nm 9) (.tup (.cons (.ix (.v 7) (.c (.int 0))) (.cons (.ix (.v 7) (.c (.int 1))) (.cons (.bi .lst (.cons (.ix (.v 7) (.c (.int 2))) .nil)) (.cons (.bi .lst (.cons (.ix (.v 7) (.c (.int 3))) .nil)) (.cons (.ix (.v 7) (.c (.int 4))) .nil)))))))
    (.cons (.asg (.nm 10) (.call c_shows (.cons (.v 4) (.cons (.v 5) (.cons (.v 9) (.cons (.bi .dict (.cons (.v 3) .nil)) .nil))))))
    (.cons (.ift (.or' (.not' (.isi (.v 10) .bool)) (.or' (.cmp .ne (.v 10) (.v 8)) (.cmp .ne (.v 9) (.v 7)))) (.cons (.ret (.c (.bool false)))
    .nil) .nil)
    (.cons (.ift (.cmp .ne (.call c_shows (.cons (.v 5) (.cons (.v 4) (.cons (.v 9) (.cons (.v 3) .nil))))) (.call c__law_right (.cons (.v 5) (.cons (.v 4) (.cons (.v 7) (.cons (.v 3) .nil)))))) (.cons (.ret (.c (.bool false)))
    .nil) .nil)
    (.cons (.ret (.cmp .eq (.call c_shows (.cons (.v 4) (.cons (.v 5) (.cons (.v 9) (.cons (.v 3) .nil))))) (.v 8)))
    .nil)))))))))))))))
/- _law_way(_law_script, _law_tape, _law_thing_here, _law_book_here): 0 _law_script, 1 _law_tape, 2 _law_thing_here, 3 _law_book_here, 4 _law_turn, 5 _law_rows_here -/
def m_l_way_v2 (c__law_draw c_stepped c_steps_of : Nat) (y_Great n_Great : List Nat) : Sms :=
    (.cons (.for' (.nm 4) (.rng1 (.call c__law_draw (.cons (.v 0) (.cons (.v 1) (.cons (.c (.int 5)) .nil))))) (.cons (.asg (.nm 5) (.call c_steps_of (.cons (.v 2) (.cons (.v 3) .nil))))
    (.cons (.ift (.cmp .eq (.v 5) (.lst .nil)) (.cons (.ret (.v 2))
    .nil) .nil)
    (.cons (.tryM (.cons (.asg (.nm 2) (.call c_stepped (.cons (.v 2) (.cons (.ix (.ix (.v 5) (.bin .mod (.call c__law_draw (.cons (.v 0) (.cons (.v 1) (.cons (.c (.int 1000)) .nil)))) (.bi .len (.cons (.v 5) .nil)))) (.c (.int 0))) (.cons (.v 3) .nil)))))
    .nil) (.cons y_Great n_Great (.cons (.ret (.v 2))
    .nil)
    .nil))
    .nil))))
    (.cons (.ret (.v 2))
    .nil))
/- _law_told(_law_one, _law_other, _law_book_here): 0 _law_one, 1 _law_other, 2 _law_book_here -/
def m_l_told_v5 (c_compared : Nat) (y_Dry n_Dry y_Great n_Great : List Nat) : Sms :=
    (.cons (.tryM (.cons (.ret (.call c_compared (.cons (.v 0) (.cons (.v 1) (.cons (.c (.int 16)) (.cons (.v 2) .nil))))))
    .nil) (.cons y_Dry n_Dry (.cons (.ret (.c .none))
    .nil)
    (.cons y_Great n_Great (.cons (.ret (.c .none))
    .nil)
    .nil)))
    .nil)
/- _law_right(_law_one, _law_other, _law_told_here, _law_book_here): 0 _law_one, 1 _law_other, 2 _law_told_here, 3 _law_book_here, 4 _law_place, 5 _law_here, 6 _law_there, 7 _law_k -/
def m_l_right_v3 (c_at_place c_shows : Nat) : Sms :=
    (.cons (.ift (.cmp .is (.v 2) (.c .none)) (.cons (.ret (.c (.bool true)))
    .nil) .nil)
    (.cons (.ift (.cmp .isn (.call c_shows (.cons (.v 0) (.cons (.v 1) (.cons (.v 2) (.cons (.v 3) .nil))))) (.c (.bool true))) (.cons (.ret (.c (.bool false)))
    .nil) .nil)
    (.cons (.ift (.cmp .is (.ix (.v 2) (.c (.int 4))) (.c .none)) (.cons (.ret (.cmp .eq (.ix (.v 2) (.c (.int 0))) (.ix (.v 2) (.c (.int 1)))))
    .nil) .nil)
    (.cons (.asg (.nm 4) (.ix (.v 2) (.c (.int 4))))
    (.cons (.asg (.nm 5) (.call c_at_place (.cons (.ix (.v 2) (.c (.int 0))) (.cons (.v 4) .nil))))
    (.cons (.asg (.nm 6) (.call c_at_place (.cons (.ix (.v 2) (.c (.int 1))) (.cons (.v 4) .nil))))
    (.cons (.ift (.and' (.cmp .eq (.ix (.v 5) (.c (.int 0))) (.ix (.v 6) (.c (.int 0)))) (.or' (.cmp .nin (.ix (.v 5) (.c (.int 0))) (.tup (.cons (.c (.str "var")) (.cons (.c (.str "name")) .nil)))) (.cmp .eq (.ix (.v 5) (.c (.int 1))) (.ix (.v 6) (.c (.int 1)))))) (.cons (.ret (.c (.bool false)))
    .nil) .nil)
    (.cons (.for' (.nm 7) (.rng1 (.bi .len (.cons (.v 4) .nil))) (.cons (.ift (.cmp .ne (.ix (.call c_at_place (.cons (.ix (.v 2) (.c (.int 0))) (.cons (.sl (.v 4) .non (.one (.v 7))) .nil))) (.c (.int 0))) (.ix (.call c_at_place (.cons (.ix (.v 2) (.c (.int 1))) (.cons (.sl (.v 4) .non (.one (.v 7))) .nil))) (.c (.int 0)))) (.cons (.ret (.c (.bool false)))
    .nil) .nil)
    .nil))
    (.cons (.ret (.cmp .ne (.ix (.v 2) (.c (.int 0))) (.ix (.v 2) (.c (.int 1)))))
    .nil)))))))))
/- _law_changed(_law_script, _law_tape, _law_thing_here, _law_pool_here): 0 _law_script, 1 _law_tape, 2 _law_thing_here, 3 _law_pool_here, 4 _law_rows_here, 5 _law_row, 6 _law_made, 7 _law_new -/
def m_l_changed_v2 (c__law_great c__law_with c__law_kind c__law_term c__law_draw c__law_rows : Nat) : Sms :=
    (.cons (.asg (.nm 4) (.call c__law_rows (.cons (.v 2) (.cons (.dct [] .nil) .nil))))
    (.cons (.asg (.nm 5) (.ix (.v 4) (.bin .mod (.call c__law_draw (.cons (.v 0) (.cons (.v 1) (.cons (.bin .pow (.c (.int 10)) (.c (.int 6))) .nil)))) (.bi .len (.cons (.v 4) .nil)))))
    (.cons (.ift (.cmp .inn (.ix (.ix (.v 5) (.c (.int 1))) (.c (.int 0))) (.tup (.cons (.c (.str "nat")) (.cons (.c (.str "none")) (.cons (.c (.str "all")) (.cons (.c (.str "some")) (.cons (.c (.str "same")) .nil))))))) (.cons (.asg (.nm 7) (.call c__law_kind (.cons (.v 0) (.cons (.v 1) (.cons (.c (.int 1)) (.cons (.c (.int 2)) (.cons (.v 3) .nil)))))))
    .nil) (.cons (.asg (.nm 7) (.call c__law_term (.cons (.v 0) (.cons (.v 1) (.cons (.c (.int 1)) (.cons (.c (.int 2)) (.cons (.v 3) .nil)))))))
    .nil))
    (.cons (.asg (.nm 6) (.call c__law_with (.cons (.v 2) (.cons (.ix (.v 5) (.c (.int 0))) (.cons (.v 7) .nil)))))
    (.cons (.ift (.call c__law_great (.cons (.v 6) .nil)) (.cons (.ret (.v 2))
    .nil) .nil)
    (.cons (.ret (.v 6))
    .nil))))))
/- law(_law_script): 0 _law_script, 1 _law_tape, 2 _law_pool_here, 3 _law_book_here, 4 _law_thing_here, 5 _law_one, 6 _law_other, 7 _law_told_here, 8 _law_third, 9 _law_near, 10 _law_far -/
def m_law_v15 (c__law_right c__law_told c__law_changed c_alike c__law_way c__law_thing c__law_draw c__law_book c__law_pool : Nat) : Sms :=
    (.cons (.asg (.nm 1) (.lst (.cons (.c (.int 0)) .nil)))
    (.cons (.asg (.nm 2) (.call c__law_pool (.cons (.v 0) (.cons (.v 1) .nil))))
    (.cons (.asg (.nm 3) (.call c__law_book (.cons (.v 0) (.cons (.v 1) (.cons (.v 2) .nil)))))
    (.cons (.asg (.nm 4) (.call c__law_thing (.cons (.v 0) (.cons (.v 1) (.cons (.bin .add (.c (.int 1)) (.call c__law_draw (.cons (.v 0) (.cons (.v 1) (.cons (.c (.int 4)) .nil))))) (.cons (.ix (.lst (.cons (.c (.int 0)) (.cons (.c (.int 3)) (.cons (.c (.int 90)) .nil)))) (.call c__law_draw (.cons (.v 0) (.cons (.v 1) (.cons (.c (.int 3)) .nil))))) (.cons (.v 2) .nil)))))))
    (.cons (.asg (.nm 5) (.call c__law_way (.cons (.v 0) (.cons (.v 1) (.cons (.v 4) (.cons (.v 3) .nil))))))
    (.cons (.asg (.nm 6) (.call c__law_way (.cons (.v 0) (.cons (.v 1) (.cons (.v 4) (.cons (.v 3) .nil))))))
    (.cons (.asg (.nm 7) (.call c__law_told (.cons (.v 5) (.cons (.v 6) (.cons (.v 3) .nil)))))
    (.cons (.ift (.and' (.cmp .isn (.v 7) (.c .none)) (.or' (.cmp .isn (.ix (.v 7) (.c (.int 4))) (.c .none)) (.cmp .isn (.call c_alike (.cons (.v 5) (.cons (.v 6) (.cons (.c (.int 16)) (.cons (.v 3) .nil))))) (.c (.bool true))))) (.cons (.ret (.c (.bool false)))
    .nil) .nil)
    (.cons (.ift (.and' (.cmp .isn (.v 7) (.c .none)) (.cmp .isn (.call c_alike (.cons (.v 6) (.cons (.v 6) (.cons (.c (.int 16)) (.cons (.v 3) .nil))))) (.c (.bool true)))) (.cons (.ret (.c (.bool false)))
    .nil) .nil)
    (.cons (.asg (.nm 8) (.call c__law_changed (.cons (.v 0) (.cons (.v 1) (.cons (.v 6) (.cons (.v 2) .nil))))))
    (.cons (.asg (.nm 9) (.call c__law_told (.cons (.v 5) (.cons (.v 8) (.cons (.v 3) .nil)))))
    (.cons (.asg (.nm 10) (.call c__law_told (.cons (.v 8) (.cons (.v 6) (.cons (.v 3) .nil)))))
    (.cons (.ift (.or' (.not' (.call c__law_right (.cons (.v 5) (.cons (.v 6) (.cons (.v 7) (.cons (.v 3) .nil)))))) (.not' (.call c__law_right (.cons (.v 5) (.cons (.v 8) (.cons (.v 9) (.cons (.v 3) .nil))))))) (.cons (.ret (.c (.bool false)))
    .nil) .nil)
    (.cons (.ift (.not' (.call c__law_right (.cons (.v 8) (.cons (.v 6) (.cons (.v 10) (.cons (.v 3) .nil)))))) (.cons (.ret (.c (.bool false)))
    .nil) .nil)
    (.cons (.ift (.or' (.cmp .is (.v 7) (.c .none)) (.or' (.cmp .is (.v 9) (.c .none)) (.cmp .is (.v 10) (.c .none)))) (.cons (.ret (.c (.bool true)))
    .nil) .nil)
    (.cons (.ret (.and' (.cmp .eq (.cmp .is (.ix (.v 9) (.c (.int 4))) (.c .none)) (.cmp .is (.ix (.v 10) (.c (.int 4))) (.c .none))) (.or' (.cmp .is (.ix (.v 9) (.c (.int 4))) (.c .none)) (.cmp .eq (.ix (.v 9) (.c (.int 4))) (.ix (.v 10) (.c (.int 4)))))))
    .nil))))))))))))))))
/- kind_at(context, number): 0 context, 1 number -/
def m_kind_at (c_lifted x_NoVariable : Nat) : Sms :=
    (.cons (.ift (.cmp .ge (.v 1) (.bi .len (.cons (.v 0) .nil))) (.cons (.raise x_NoVariable)
    .nil) .nil)
    (.cons (.ret (.call c_lifted (.cons (.ix (.v 0) (.v 1)) (.cons (.bin .add (.v 1) (.c (.int 1))) (.cons (.c (.int 0)) .nil)))))
    .nil))
/- _law_context(_law_cell): 0 _law_cell, 1 _law_made_of, 2 _law_k, 3 _law_way, 4 _law_kind -/
def m_l_context : Sms :=
    (.cons (.asg (.nm 1) (.lst .nil))
    (.cons (.for' (.nm 2) (.rng1 (.ix (.lst (.cons (.c (.int 0)) (.cons (.c (.int 1)) (.cons (.c (.int 2)) (.cons (.c (.int 3)) (.cons (.c (.int 5)) (.cons (.c (.int 9)) .nil))))))) (.bin .mod (.v 0) (.c (.int 6))))) (.cons (.asg (.nm 3) (.bin .mod (.bin .add (.bin .fdiv (.v 0) (.c (.int 6))) (.bin .mul (.bin .add (.bin .fdiv (.v 0) (.c (.int 36))) (.c (.int 5))) (.v 2))) (.c (.int 6))))
    (.cons (.asg (.nm 4) (.tup (.cons (.c (.str "nat")) .nil)))
    (.cons (.ift (.cmp .eq (.v 3) (.c (.int 1))) (.cons (.asg (.nm 4) (.tup (.cons (.c (.str "all")) (.cons (.tup (.cons (.c (.str "nat")) .nil)) (.cons (.tup (.cons (.c (.str "nat")) .nil)) .nil)))))
    .nil) .nil)
    (.cons (.ift (.cmp .eq (.v 3) (.c (.int 2))) (.cons (.asg (.nm 4) (.tup (.cons (.c (.str "some")) (.cons (.tup (.cons (.c (.str "nat")) .nil)) (.cons (.tup (.cons (.c (.str "nat")) .nil)) .nil)))))
    .nil) .nil)
    (.cons (.ift (.cmp .eq (.v 3) (.c (.int 3))) (.cons (.asg (.nm 4) (.tup (.cons (.c (.str "none")) .nil)))
    .nil) .nil)
    (.cons (.ift (.and' (.cmp .eq (.v 3) (.c (.int 4))) (.and' (.cmp .ne (.v 1) (.lst .nil)) (.cmp .eq (.ix (.v 1) (.c (.int 0))) (.tup (.cons (.c (.str "nat")) .nil))))) (.cons (.asg (.nm 4) (.tup (.cons (.c (.str "same")) (.cons (.tup (.cons (.c (.str "nat")) .nil)) (.cons (.tup (.cons (.c (.str "var")) (.cons (.c (.int 0)) .nil))) (.cons (.tup (.cons (.c (.str "zero")) .nil)) .nil))))))
    .nil) .nil)
    (.cons (.ift (.cmp .eq (.v 3) (.c (.int 5))) (.cons (.asg (.nm 4) (.tup (.cons (.c (.str "all")) (.cons (.tup (.cons (.c (.str "nat")) .nil)) (.cons (.tup (.cons (.c (.str "same")) (.cons (.tup (.cons (.c (.str "nat")) .nil)) (.cons (.tup (.cons (.c (.str "var")) (.cons (.c (.int 0)) .nil))) (.cons (.tup (.cons (.c (.str "zero")) .nil)) .nil))))) .nil)))))
    .nil) .nil)
    (.cons (.asg (.nm 1) (.bin .add (.lst (.cons (.v 4) .nil)) (.v 1)))
    .nil)))))))))
    (.cons (.ret (.v 1))
    .nil)))
/- _law_book(_law_cell): 0 _law_cell, 1 _law_book_here -/
def m_l_book_v2 : Sms :=
    (.cons (.asg (.nm 1) (.dct [] .nil))
    (.cons (.ift (.cmp .gt (.bin .mod (.v 0) (.c (.int 3))) (.c (.int 0))) (.cons (.setI (.v 1) (.c (.str "two")) (.tup (.cons (.tup (.cons (.c (.str "nat")) .nil)) (.cons (.tup (.cons (.c (.str "next")) (.cons (.tup (.cons (.c (.str "next")) (.cons (.tup (.cons (.c (.str "zero")) .nil)) .nil))) .nil))) .nil))))
    .nil) .nil)
    (.cons (.ift (.cmp .gt (.bin .mod (.v 0) (.c (.int 3))) (.c (.int 1))) (.cons (.setI (.v 1) (.c (.str "idle")) (.tup (.cons (.tup (.cons (.c (.str "all")) (.cons (.tup (.cons (.c (.str "nat")) .nil)) (.cons (.tup (.cons (.c (.str "nat")) .nil)) .nil)))) (.cons (.tup (.cons (.c (.str "fun")) (.cons (.tup (.cons (.c (.str "nat")) .nil)) (.cons (.tup (.cons (.c (.str "var")) (.cons (.c (.int 0)) .nil))) .nil)))) .nil))))
    .nil) .nil)
    (.cons (.ret (.v 1))
    .nil))))
/- _law_word_of(_law_e): 0 _law_e, 1 _law_words -/
def m_l_word_of (p0 q0 p1 q1 p2 q2 p3 q3 p4 q4 p5 q5 p6 q6 p7 q7 p8 q8 p9 q9 : List Nat) : Sms :=
    (.cons (.asg (.nm 1) (.lst .nil))
    (.cons (.ift (.isx (.v 0) p9 q9) (.cons (.ex (.mth .append (.v 1) (.cons (.c (.str "novariable")) .nil)))
    .nil) .nil)
    (.cons (.ift (.isx (.v 0) p8 q8) (.cons (.ex (.mth .append (.v 1) (.cons (.c (.str "noname")) .nil)))
    .nil) .nil)
    (.cons (.ift (.isx (.v 0) p7 q7) (.cons (.ex (.mth .append (.v 1) (.cons (.c (.str "notall")) .nil)))
    .nil) .nil)
    (.cons (.ift (.isx (.v 0) p6 q6) (.cons (.ex (.mth .append (.v 1) (.cons (.c (.str "notsome")) .nil)))
    .nil) .nil)
    (.cons (.ift (.isx (.v 0) p5 q5) (.cons (.ex (.mth .append (.v 1) (.cons (.c (.str "notsame")) .nil)))
    .nil) .nil)
    (.cons (.ift (.isx (.v 0) p4 q4) (.cons (.ex (.mth .append (.v 1) (.cons (.c (.str "unlike")) .nil)))
    .nil) .nil)
    (.cons (.ift (.isx (.v 0) p3 q3) (.cons (.ex (.mth .append (.v 1) (.cons (.c (.str "great")) .nil)))
    .nil) .nil)
    (.cons (.ift (.isx (.v 0) p2 q2) (.cons (.ex (.mth .append (.v 1) (.cons (.c (.str "dry")) .nil)))
    .nil) .nil)
    (.cons (.ift (.or' (.isx (.v 0) p0 q0) (.not' (.isx (.v 0) p1 q1))) (.cons (.ex (.mth .append (.v 1) (.cons (.c (.str "other")) .nil)))
    .nil) .nil)
    (.cons (.ret (.mth .join (.c (.str "")) (.cons (.v 1) .nil)))
    .nil)))))))))))
/- _law_answer(_law_context_here, _law_number): 0 _law_context_here, 1 _law_number, 2 _law_e -/
def m_l_answer (c_kind_at c__law_word_of : Nat) (y_KeeperError n_KeeperError : List Nat) : Sms :=
    (.cons (.tryA (.cons (.ret (.call c_kind_at (.cons (.v 0) (.cons (.v 1) .nil))))
    .nil) y_KeeperError n_KeeperError 2 (.cons (.ret (.call c__law_word_of (.cons (.v 2) .nil)))
    .nil))
    .nil)
/- _law_lifted(_law_kind, _law_by): 0 _law_kind, 1 _law_by -/
def m_l_lifted (c_lifted : Nat) (y_Great n_Great : List Nat) : Sms :=
    (.cons (.tryM (.cons (.ret (.call c_lifted (.cons (.v 0) (.cons (.v 1) (.cons (.c (.int 0)) .nil)))))
    .nil) (.cons y_Great n_Great (.cons (.ret (.c (.str "great")))
    .nil)
    .nil))
    .nil)
/- law(_law_script): 0 _law_script, 1 _law_context_here, 2 _law_far, 3 _law_number, 4 _law_handed, 5 _law_got, 6 _law_due, 7 _law_further, 8 _law_side -/
def m_law_v37 (c__law_answer c__law_lifted c__law_cell_at c__law_context : Nat) : Sms :=
    (.cons (.asg (.nm 1) (.call c__law_context (.cons (.call c__law_cell_at (.cons (.v 0) (.cons (.c (.int 0)) .nil))) .nil)))
    (.cons (.asg (.nm 2) (.cmp .eq (.bin .mod (.call c__law_cell_at (.cons (.v 0) (.cons (.c (.int 3)) .nil))) (.c (.int 3))) (.c (.int 1))))
    (.cons (.ift (.v 2) (.cons (.asg (.nm 8) (.tup (.cons (.c (.str "var")) (.cons (.bin .add (.c (.int 90)) (.bin .mod (.bin .fdiv (.call c__law_cell_at (.cons (.v 0) (.cons (.c (.int 3)) .nil))) (.c (.int 3))) (.c (.int 10)))) .nil))))
    (.cons (.ex (.mth .append (.v 1) (.cons (.tup (.cons (.c (.str "same")) (.cons (.tup (.cons (.c (.str "nat")) .nil)) (.cons (.v 8) (.cons (.tup (.cons (.c (.str "fun")) (.cons (.tup (.cons (.c (.str "nat")) .nil)) (.cons (.v 8) .nil)))) .nil))))) .nil)))
    .nil)) .nil)
    (.cons (.asg (.nm 3) (.bin .mod (.call c__law_cell_at (.cons (.v 0) (.cons (.c (.int 1)) .nil))) (.bin .add (.bi .len (.cons (.v 1) .nil)) (.c (.int 2)))))
    (.cons (.asg (.nm 4) (.ix (.lst (.cons (.bi .lst (.cons (.v 1) .nil)) (.cons (.bi .tup (.cons (.v 1) .nil)) .nil))) (.bin .mod (.call c__law_cell_at (.cons (.v 0) (.cons (.c (.int 2)) .nil))) (.c (.int 2)))))
    (.cons (.asg (.nm 5) (.call c__law_answer (.cons (.v 4) (.cons (.v 3) .nil))))
    (.cons (.ift (.cmp .ne (.bi .lst (.cons (.v 4) .nil)) (.v 1)) (.cons (.ret (.c (.bool false)))
    .nil) .nil)
    (.cons (.asg (.nm 6) (.c (.str "novariable")))
    (.cons (.ift (.cmp .lt (.v 3) (.bi .len (.cons (.v 1) .nil))) (.cons (.asg (.nm 6) (.call c__law_lifted (.cons (.ix (.v 1) (.v 3)) (.cons (.bin .add (.v 3) (.c (.int 1))) .nil))))
    .nil) .nil)
    (.cons (.ift (.cmp .ne (.v 5) (.v 6)) (.cons (.ret (.c (.bool false)))
    .nil) .nil)
    (.cons (.asg (.nm 7) (.bi .lst (.cons (.v 4) .nil)))
    (.cons (.ex (.call c__law_answer (.cons (.v 7) (.cons (.v 3) .nil))))
    (.cons (.ex (.mth .insert (.v 7) (.cons (.c (.int 0)) (.cons (.tup (.cons (.c (.str "all")) (.cons (.tup (.cons (.c (.str "nat")) .nil)) (.cons (.tup (.cons (.c (.str "none")) .nil)) .nil)))) .nil))))
    (.cons (.asg (.nm 6) (.call c__law_lifted (.cons (.ix (.bin .add (.v 7) (.lst (.cons (.tup (.cons (.c (.str "nat")) .nil)) .nil))) (.v 3)) (.cons (.bin .add (.v 3) (.c (.int 1))) .nil))))
    (.cons (.ret (.or' (.cmp .ge (.v 3) (.bi .len (.cons (.v 7) .nil))) (.cmp .eq (.call c__law_answer (.cons (.v 7) (.cons (.v 3) .nil))) (.v 6))))
    .nil)))))))))))))))
/- nth(number): 0 number -/
def m_nth : Sms :=
    (.cons (.ret (.tup (.cons (.c (.str "var")) (.cons (.v 0) .nil))))
    .nil)
/- called(name, terms): 0 name, 1 terms, 2 found, 3 term -/
def m_called : Sms :=
    (.cons (.asg (.nm 2) (.tup (.cons (.c (.str "name")) (.cons (.v 0) .nil))))
    (.cons (.for' (.nm 3) (.val (.v 1)) (.cons (.asg (.nm 2) (.tup (.cons (.c (.str "app")) (.cons (.v 2) (.cons (.v 3) .nil)))))
    .nil))
    (.cons (.ret (.v 2))
    .nil)))
/- sum_of(one, other): 0 one, 1 other -/
def m_sum_of (c_called : Nat) : Sms :=
    (.cons (.ret (.call c_called (.cons (.c (.str "plus")) (.cons (.lst (.cons (.v 0) (.cons (.v 1) .nil))) .nil))))
    .nil)
/- same(one, other): 0 one, 1 other -/
def m_same : Sms :=
    (.cons (.ret (.tup (.cons (.c (.str "same")) (.cons (.c (.tuple [(.str "nat")])) (.cons (.v 0) (.cons (.v 1) .nil))))))
    .nil)
/- for_all(kinds, last): 0 kinds, 1 last, 2 kind -/
def m_for_all : Sms :=
    (.cons (.for' (.nm 2) (.revL (.v 0)) (.cons (.asg (.nm 1) (.tup (.cons (.c (.str "all")) (.cons (.v 2) (.cons (.v 1) .nil)))))
    .nil))
    (.cons (.ret (.v 1))
    .nil))
/- fun_of(kinds, last): 0 kinds, 1 last, 2 kind -/
def m_fun_of : Sms :=
    (.cons (.for' (.nm 2) (.revL (.v 0)) (.cons (.asg (.nm 1) (.tup (.cons (.c (.str "fun")) (.cons (.v 2) (.cons (.v 1) .nil)))))
    .nil))
    (.cons (.ret (.v 1))
    .nil))
/- plus_pair(): 0 step -/
def m_plus_pair (c_fun_of c_nth c_for_all : Nat) : Sms :=
    (.cons (.asg (.nm 0) (.call c_fun_of (.cons (.lst (.cons (.c (.tuple [(.str "nat")])) (.cons (.c (.tuple [(.str "nat")])) .nil))) (.cons (.tup (.cons (.c (.str "next")) (.cons (.call c_nth (.cons (.c (.int 0)) .nil)) .nil))) .nil))))
    (.cons (.ret (.tup (.cons (.call c_for_all (.cons (.lst (.cons (.c (.tuple [(.str "nat")])) (.cons (.c (.tuple [(.str "nat")])) .nil))) (.cons (.c (.tuple [(.str "nat")])) .nil))) (.cons (.call c_fun_of (.cons (.lst (.cons (.c (.tuple [(.str "nat")])) (.cons (.c (.tuple [(.str "nat")])) .nil))) (.cons (.tup (.cons (.c (.str "rec")) (.cons (.c (.tuple [(.str "nat")])) (.cons (.call c_nth (.cons (.c (.int 0)) .nil)) (.cons (.v 0) (.cons (.call c_nth (.cons (.c (.int 1)) .nil)) .nil)))))) .nil))) .nil))))
    .nil))
/- times_pair(): 0 step -/
def m_times_pair (c_fun_of c_nth c_for_all c_sum_of : Nat) : Sms :=
    (.cons (.asg (.nm 0) (.call c_fun_of (.cons (.lst (.cons (.c (.tuple [(.str "nat")])) (.cons (.c (.tuple [(.str "nat")])) .nil))) (.cons (.call c_sum_of (.cons (.call c_nth (.cons (.c (.int 2)) .nil)) (.cons (.call c_nth (.cons (.c (.int 0)) .nil)) .nil))) .nil))))
    (.cons (.ret (.tup (.cons (.call c_for_all (.cons (.lst (.cons (.c (.tuple [(.str "nat")])) (.cons (.c (.tuple [(.str "nat")])) .nil))) (.cons (.c (.tuple [(.str "nat")])) .nil))) (.cons (.call c_fun_of (.cons (.lst (.cons (.c (.tuple [(.str "nat")])) (.cons (.c (.tuple [(.str "nat")])) .nil))) (.cons (.tup (.cons (.c (.str "rec")) (.cons (.c (.tuple [(.str "nat")])) (.cons (.c (.tuple [(.str "zero")])) (.cons (.v 0) (.cons (.call c_nth (.cons (.c (.int 1)) .nil)) .nil)))))) .nil))) .nil))))
    .nil))
/- turnabout_pair(): 0 kinds, 1 term -/
def m_turnabout_pair (c_fun_of c_for_all c_same c_nth : Nat) : Sms :=
    (.cons (.asg (.nm 0) (.lst (.cons (.c (.tuple [(.str "nat")])) (.cons (.c (.tuple [(.str "nat")])) (.cons (.call c_same (.cons (.call c_nth (.cons (.c (.int 1)) .nil)) (.cons (.call c_nth (.cons (.c (.int 0)) .nil)) .nil))) .nil)))))
    (.cons (.asg (.nm 1) (.tup (.cons (.c (.str "carry")) (.cons (.call c_same (.cons (.call c_nth (.cons (.c (.int 0)) .nil)) (.cons (.call c_nth (.cons (.c (.int 3)) .nil)) .nil))) (.cons (.tup (.cons (.c (.str "like")) (.cons (.c (.tuple [(.str "nat")])) (.cons (.call c_nth (.cons (.c (.int 2)) .nil)) .nil)))) (.cons (.call c_nth (.cons (.c (.int 0)) .nil)) .nil))))))
    (.cons (.ret (.tup (.cons (.call c_for_all (.cons (.v 0) (.cons (.call c_same (.cons (.call c_nth (.cons (.c (.int 1)) .nil)) (.cons (.call c_nth (.cons (.c (.int 2)) .nil)) .nil))) .nil))) (.cons (.call c_fun_of (.cons (.v 0) (.cons (.v 1) .nil))) .nil))))
    .nil)))
/- through_pair(): 0 kinds, 1 term -/
def m_through_pair (c_fun_of c_for_all c_same c_nth : Nat) : Sms :=
    (.cons (.asg (.nm 0) (.lst (.cons (.c (.tuple [(.str "nat")])) (.cons (.c (.tuple [(.str "nat")])) (.cons (.c (.tuple [(.str "nat")])) (.cons (.call c_same (.cons (.call c_nth (.cons (.c (.int 2)) .nil)) (.cons (.call c_nth (.cons (.c (.int 1)) .nil)) .nil))) (.cons (.call c_same (.cons (.call c_nth (.cons (.c (.int 2)) .nil)) (.cons (.call c_nth (.cons (.c (.int 1)) .nil)) .nil))) .nil)))))))
    (.cons (.asg (.nm 1) (.tup (.cons (.c (.str "carry")) (.cons (.call c_same (.cons (.call c_nth (.cons (.c (.int 5)) .nil)) (.cons (.call c_nth (.cons (.c (.int 0)) .nil)) .nil))) (.cons (.call c_nth (.cons (.c (.int 1)) .nil)) (.cons (.call c_nth (.cons (.c (.int 0)) .nil)) .nil))))))
    (.cons (.ret (.tup (.cons (.call c_for_all (.cons (.v 0) (.cons (.call c_same (.cons (.call c_nth (.cons (.c (.int 4)) .nil)) (.cons (.call c_nth (.cons (.c (.int 2)) .nil)) .nil))) .nil))) (.cons (.call c_fun_of (.cons (.v 0) (.cons (.v 1) .nil))) .nil))))
    .nil)))
/- nexts_pair(): 0 kinds, 1 first, 2 term -/
def m_nexts_pair (c_fun_of c_for_all c_same c_nth : Nat) : Sms :=
    (.cons (.asg (.nm 0) (.lst (.cons (.c (.tuple [(.str "nat")])) (.cons (.c (.tuple [(.str "nat")])) (.cons (.call c_same (.cons (.call c_nth (.cons (.c (.int 1)) .nil)) (.cons (.call c_nth (.cons (.c (.int 0)) .nil)) .nil))) .nil)))))
    (.cons (.asg (.nm 1) (.tup (.cons (.c (.str "like")) (.cons (.c (.tuple [(.str "nat")])) (.cons (.tup (.cons (.c (.str "next")) (.cons (.call c_nth (.cons (.c (.int 2)) .nil)) .nil))) .nil)))))
    (.cons (.asg (.nm 2) (.tup (.cons (.c (.str "carry")) (.cons (.call c_same (.cons (.tup (.cons (.c (.str "next")) (.cons (.call c_nth (.cons (.c (.int 3)) .nil)) .nil))) (.cons (.tup (.cons (.c (.str "next")) (.cons (.call c_nth (.cons (.c (.int 0)) .nil)) .nil))) .nil))) (.cons (.v 1) (.cons (.call c_nth (.cons (.c (.int 0)) .nil)) .nil))))))
    (.cons (.ret (.tup (.cons (.call c_for_all (.cons (.v 0) (.cons (.call c_same (.cons (.tup (.cons (.c (.str "next")) (.cons (.call c_nth (.cons (.c (.int 2)) .nil)) .nil))) (.cons (.tup (.cons (.c (.str "next")) (.cons (.call c_nth (.cons (.c (.int 1)) .nil)) .nil))) .nil))) .nil))) (.cons (.call c_fun_of (.cons (.v 0) (.cons (.v 2) .nil))) .nil))))
    .nil))))
/- pluszero_pair(): 0 kind, 1 step -/
def m_pluszero_pair (c_nth c_fun_of c_called c_sum_of c_same : Nat) : Sms :=
    (.cons (.asg (.nm 0) (.call c_same (.cons (.call c_sum_of (.cons (.call c_nth (.cons (.c (.int 0)) .nil)) (.cons (.c (.tuple [(.str "zero")])) .nil))) (.cons (.call c_nth (.cons (.c (.int 0)) .nil)) .nil))))
    (.cons (.asg (.nm 1) (.call c_fun_of (.cons (.lst (.cons (.c (.tuple [(.str "nat")])) (.cons (.v 0) .nil))) (.cons (.call c_called (.cons (.c (.str "nexts")) (.cons (.lst (.cons (.call c_sum_of (.cons (.call c_nth (.cons (.c (.int 1)) .nil)) (.cons (.c (.tuple [(.str "zero")])) .nil))) (.cons (.call c_nth (.cons (.c (.int 1)) .nil)) (.cons (.call c_nth (.cons (.c (.int 0)) .nil)) .nil)))) .nil))) .nil))))
    (.cons (.ret (.tup (.cons (.tup (.cons (.c (.str "all")) (.cons (.c (.tuple [(.str "nat")])) (.cons (.v 0) .nil)))) (.cons (.tup (.cons (.c (.str "fun")) (.cons (.c (.tuple [(.str "nat")])) (.cons (.tup (.cons (.c (.str "rec")) (.cons (.v 0) (.cons (.tup (.cons (.c (.str "like")) (.cons (.c (.tuple [(.str "nat")])) (.cons (.c (.tuple [(.str "zero")])) .nil)))) (.cons (.v 1) (.cons (.call c_nth (.cons (.c (.int 0)) .nil)) .nil)))))) .nil)))) .nil))))
    .nil)))
/- plusnext_pair(): 0 kind, 1 ends, 2 step, 3 first, 4 told -/
def m_plusnext_pair (c_fun_of c_nth c_for_all c_same c_sum_of c_called : Nat) : Sms :=
    (.cons (.asg (.nm 0) (.call c_same (.cons (.call c_sum_of (.cons (.call c_nth (.cons (.c (.int 0)) .nil)) (.cons (.tup (.cons (.c (.str "next")) (.cons (.call c_nth (.cons (.c (.int 1)) .nil)) .nil))) .nil))) (.cons (.tup (.cons (.c (.str "next")) (.cons (.call c_sum_of (.cons (.call c_nth (.cons (.c (.int 0)) .nil)) (.cons (.call c_nth (.cons (.c (.int 1)) .nil)) .nil))) .nil))) .nil))))
    (.cons (.asg (.nm 1) (.lst (.cons (.call c_sum_of (.cons (.call c_nth (.cons (.c (.int 1)) .nil)) (.cons (.tup (.cons (.c (.str "next")) (.cons (.call c_nth (.cons (.c (.int 2)) .nil)) .nil))) .nil))) (.cons (.tup (.cons (.c (.str "next")) (.cons (.call c_sum_of (.cons (.call c_nth (.cons (.c (.int 1)) .nil)) (.cons (.call c_nth (.cons (.c (.int 2)) .nil)) .nil))) .nil))) (.cons (.call c_nth (.cons (.c (.int 0)) .nil)) .nil)))))
    (.cons (.asg (.nm 2) (.call c_fun_of (.cons (.lst (.cons (.c (.tuple [(.str "nat")])) (.cons (.v 0) .nil))) (.cons (.call c_called (.cons (.c (.str "nexts")) (.cons (.v 1) .nil))) .nil))))
    (.cons (.asg (.nm 3) (.tup (.cons (.c (.str "like")) (.cons (.c (.tuple [(.str "nat")])) (.cons (.tup (.cons (.c (.str "next")) (.cons (.call c_nth (.cons (.c (.int 0)) .nil)) .nil))) .nil)))))
    (.cons (.asg (.nm 4) (.call c_same (.cons (.call c_sum_of (.cons (.call c_nth (.cons (.c (.int 1)) .nil)) (.cons (.tup (.cons (.c (.str "next")) (.cons (.call c_nth (.cons (.c (.int 0)) .nil)) .nil))) .nil))) (.cons (.tup (.cons (.c (.str "next")) (.cons (.call c_sum_of (.cons (.call c_nth (.cons (.c (.int 1)) .nil)) (.cons (.call c_nth (.cons (.c (.int 0)) .nil)) .nil))) .nil))) .nil))))
    (.cons (.ret (.tup (.cons (.call c_for_all (.cons (.lst (.cons (.c (.tuple [(.str "nat")])) (.cons (.c (.tuple [(.str "nat")])) .nil))) (.cons (.v 4) .nil))) (.cons (.call c_fun_of (.cons (.lst (.cons (.c (.tuple [(.str "nat")])) (.cons (.c (.tuple [(.str "nat")])) .nil))) (.cons (.tup (.cons (.c (.str "rec")) (.cons (.v 0) (.cons (.v 3) (.cons (.v 2) (.cons (.call c_nth (.cons (.c (.int 1)) .nil)) .nil)))))) .nil))) .nil))))
    .nil))))))
/- commutes_pair(): 0 kind, 1 first, 2 one, 3 other, 4 last, 5 up, 6 back, 7 step, 8 told -/
def m_commutes_pair (c_fun_of c_nth c_for_all c_same c_sum_of c_called : Nat) : Sms :=
    (.cons (.asg (.nm 0) (.call c_same (.cons (.call c_sum_of (.cons (.call c_nth (.cons (.c (.int 0)) .nil)) (.cons (.call c_nth (.cons (.c (.int 1)) .nil)) .nil))) (.cons (.call c_sum_of (.cons (.call c_nth (.cons (.c (.int 1)) .nil)) (.cons (.call c_nth (.cons (.c (.int 0)) .nil)) .nil))) .nil))))
    (.cons (.asg (.nm 1) (.call c_called (.cons (.c (.str "turnabout")) (.cons (.lst (.cons (.call c_sum_of (.cons (.call c_nth (.cons (.c (.int 0)) .nil)) (.cons (.c (.tuple [(.str "zero")])) .nil))) (.cons (.call c_nth (.cons (.c (.int 0)) .nil)) (.cons (.call c_called (.cons (.c (.str "pluszero")) (.cons (.lst (.cons (.call c_nth (.cons (.c (.int 0)) .nil)) .nil)) .nil))) .nil)))) .nil))))
    (.cons (.asg (.nm 2) (.call c_sum_of (.cons (.call c_nth (.cons (.c (.int 1)) .nil)) (.cons (.call c_nth (.cons (.c (.int 2)) .nil)) .nil))))
    (.cons (.asg (.nm 3) (.call c_sum_of (.cons (.call c_nth (.cons (.c (.int 2)) .nil)) (.cons (.call c_nth (.cons (.c (.int 1)) .nil)) .nil))))
    (.cons (.asg (.nm 4) (.call c_sum_of (.cons (.call c_nth (.cons (.c (.int 2)) .nil)) (.cons (.tup (.cons (.c (.str "next")) (.cons (.call c_nth (.cons (.c (.int 1)) .nil)) .nil))) .nil))))
    (.cons (.asg (.nm 5) (.call c_called (.cons (.c (.str "nexts")) (.cons (.lst (.cons (.v 2) (.cons (.v 3) (.cons (.call c_nth (.cons (.c (.int 0)) .nil)) .nil)))) .nil))))
    (.cons (.asg (.nm 6) (.call c_called (.cons (.c (.str "turnabout")) (.cons (.lst (.cons (.v 4) (.cons (.tup (.cons (.c (.str "next")) (.cons (.v 3) .nil))) (.cons (.call c_called (.cons (.c (.str "plusnext")) (.cons (.lst (.cons (.call c_nth (.cons (.c (.int 2)) .nil)) (.cons (.call c_nth (.cons (.c (.int 1)) .nil)) .nil))) .nil))) .nil)))) .nil))))
    (.cons (.asg (.nm 7) (.call c_fun_of (.cons (.lst (.cons (.c (.tuple [(.str "nat")])) (.cons (.v 0) .nil))) (.cons (.call c_called (.cons (.c (.str "through")) (.cons (.lst (.cons (.tup (.cons (.c (.str "next")) (.cons (.v 2) .nil))) (.cons (.tup (.cons (.c (.str "next")) (.cons (.v 3) .nil))) (.cons (.v 4) (.cons (.v 5) (.cons (.v 6) .nil)))))) .nil))) .nil))))
    (.cons (.asg (.nm 8) (.call c_same (.cons (.call c_sum_of (.cons (.call c_nth (.cons (.c (.int 1)) .nil)) (.cons (.call c_nth (.cons (.c (.int 0)) .nil)) .nil))) (.cons (.call c_sum_of (.cons (.call c_nth (.cons (.c (.int 0)) .nil)) (.cons (.call c_nth (.cons (.c (.int 1)) .nil)) .nil))) .nil))))
    (.cons (.ret (.tup (.cons (.call c_for_all (.cons (.lst (.cons (.c (.tuple [(.str "nat")])) (.cons (.c (.tuple [(.str "nat")])) .nil))) (.cons (.v 8) .nil))) (.cons (.call c_fun_of (.cons (.lst (.cons (.c (.tuple [(.str "nat")])) (.cons (.c (.tuple [(.str "nat")])) .nil))) (.cons (.tup (.cons (.c (.str "rec")) (.cons (.v 0) (.cons (.v 1) (.cons (.v 7) (.cons (.call c_nth (.cons (.c (.int 1)) .nil)) .nil)))))) .nil))) .nil))))
    .nil))))))))))
/- doubled_pair(): 0 twice, 1 kind -/
def m_doubled_pair (c_same c_sum_of c_nth : Nat) : Sms :=
    (.cons (.asg (.nm 0) (.call c_sum_of (.cons (.call c_nth (.cons (.c (.int 0)) .nil)) (.cons (.call c_nth (.cons (.c (.int 0)) .nil)) .nil))))
    (.cons (.asg (.nm 1) (.tup (.cons (.c (.str "some")) (.cons (.c (.tuple [(.str "nat")])) (.cons (.call c_same (.cons (.call c_nth (.cons (.c (.int 0)) .nil)) (.cons (.call c_sum_of (.cons (.call c_nth (.cons (.c (.int 1)) .nil)) (.cons (.call c_nth (.cons (.c (.int 1)) .nil)) .nil))) .nil))) .nil)))))
    (.cons (.ret (.tup (.cons (.tup (.cons (.c (.str "all")) (.cons (.c (.tuple [(.str "nat")])) (.cons (.v 1) .nil)))) (.cons (.tup (.cons (.c (.str "fun")) (.cons (.c (.tuple [(.str "nat")])) (.cons (.tup (.cons (.c (.str "pair")) (.cons (.v 1) (.cons (.v 0) (.cons (.tup (.cons (.c (.str "like")) (.cons (.c (.tuple [(.str "nat")])) (.cons (.v 0) .nil)))) .nil))))) .nil)))) .nil))))
    .nil)))
/- basics(): 0 book -/
def m_basics (c_doubled_pair c_commutes_pair c_plusnext_pair c_pluszero_pair c_nexts_pair c_through_pair c_turnabout_pair c_times_pair c_plus_pair : Nat) : Sms :=
    (.cons (.asg (.nm 0) (.dct [] .nil))
    (.cons (.setI (.v 0) (.c (.str "plus")) (.call c_plus_pair .nil))
    (.cons (.setI (.v 0) (.c (.str "times")) (.call c_times_pair .nil))
    (.cons (.setI (.v 0) (.c (.str "turnabout")) (.call c_turnabout_pair .nil))
    (.cons (.setI (.v 0) (.c (.str "through")) (.call c_through_pair .nil))
    (.cons (.setI (.v 0) (.c (.str "nexts")) (.call c_nexts_pair .nil))
    (.cons (.setI (.v 0) (.c (.str "pluszero")) (.call c_pluszero_pair .nil))
    (.cons (.setI (.v 0) (.c (.str "plusnext")) (.call c_plusnext_pair .nil))
    (.cons (.setI (.v 0) (.c (.str "commutes")) (.call c_commutes_pair .nil))
    (.cons (.setI (.v 0) (.c (.str "doubled")) (.call c_doubled_pair .nil))
    (.cons (.ret (.v 0))
    .nil)))))))))))
/- _law_number(_law_many): 0 _law_many, 1 _law_thing, 2 _law_k -/
def m_l_number_v2 : Sms :=
    (.cons (.asg (.nm 1) (.tup (.cons (.c (.str "zero")) .nil)))
    (.cons (.for' (.nm 2) (.rng1 (.v 0)) (.cons (.asg (.nm 1) (.tup (.cons (.c (.str "next")) (.cons (.v 1) .nil))))
    .nil))
    (.cons (.ret (.v 1))
    .nil)))
/- law(_law_script): 0 _law_script, 1 _law_most, 2 _law_one, 3 _law_word, 4 _law_other, 5 _law_due, 6 _law_term, 7 _law_told -/
def m_law_v29 (c_walked c_basics c_normal c__law_alike c__law_number c__law_cell_at : Nat) : Sms :=
    (.cons (.asg (.nm 1) (.c (.int 6)))
    (.cons (.ift (.cmp .eq (.bin .mod (.call c__law_cell_at (.cons (.v 0) (.cons (.c (.int 2)) .nil))) (.c (.int 4))) (.c (.int 1))) (.cons (.asg (.nm 1) (.c (.int 12)))
    .nil) .nil)
    (.cons (.asg (.nm 2) (.bin .mod (.call c__law_cell_at (.cons (.v 0) (.cons (.c (.int 0)) .nil))) (.bin .add (.v 1) (.c (.int 1)))))
    (.cons (.asg (.nm 3) (.ix (.lst (.cons (.c (.str "plus")) (.cons (.c (.str "times")) .nil))) (.bin .mod (.call c__law_cell_at (.cons (.v 0) (.cons (.c (.int 3)) .nil))) (.c (.int 2)))))
    (.cons (.asg (.nm 4) (.bin .mod (.call c__law_cell_at (.cons (.v 0) (.cons (.c (.int 1)) .nil))) (.bin .add (.bin .sub (.v 1) (.v 2)) (.c (.int 1)))))
    (.cons (.asg (.nm 5) (.bin .add (.v 2) (.v 4)))
    (.cons (.ift (.cmp .eq (.v 3) (.c (.str "times"))) (.cons (.asg (.nm 4) (.bin .mod (.call c__law_cell_at (.cons (.v 0) (.cons (.c (.int 1)) .nil))) (.bin .add (.bin .fdiv (.v 1) (.bi .max2 (.cons (.v 2) (.cons (.c (.int 1)) .nil)))) (.c (.int 1)))))
    (.cons (.asg (.nm 5) (.bin .mul (.v 2) (.v 4)))
    .nil)) .nil)
    (.cons (.asg (.nm 6) (.tup (.cons (.c (.str "app")) (.cons (.tup (.cons (.c (.str "app")) (.cons (.tup (.cons (.c (.str "name")) (.cons (.v 3) .nil))) (.cons (.call c__law_number (.cons (.v 2) .nil)) .nil)))) (.cons (.call c__law_number (.cons (.v 4) .nil)) .nil)))))
    (.cons (.asg (.nm 7) (.call c_normal (.cons (.v 6) (.cons (.c (.int 1000)) (.cons (.call c_basics .nil) .nil)))))
    (.cons (.ift (.not' (.call c__law_alike (.cons (.ix (.v 7) (.c (.int 0))) (.cons (.call c__law_number (.cons (.v 5) .nil)) .nil)))) (.cons (.ret (.c (.bool false)))
    .nil) .nil)
    (.cons (.ift (.cmp .gt (.bi .len (.cons (.ix (.v 7) (.c (.int 1))) .nil)) (.c (.int 60))) (.cons (.ret (.c (.bool true)))
    .nil) .nil)
    (.cons (.ret (.and' (.cmp .eq (.call c_walked (.cons (.v 6) (.cons (.ix (.v 7) (.c (.int 1))) (.cons (.call c_basics .nil) .nil)))) (.ix (.v 7) (.c (.int 0)))) (.cmp .eq (.call c_normal (.cons (.v 6) (.cons (.bi .len (.cons (.ix (.v 7) (.c (.int 1))) .nil)) (.cons (.call c_basics .nil) .nil)))) (.v 7))))
    .nil))))))))))))
end Kp

set_option Elab.async false
set_option linter.all false
set_option maxRecDepth 100000
set_option maxHeartbeats 8000000
set_option autoImplicit false
/-! La: loops, comprehensions, texts' signs. -/
namespace Kp
open PySem PySem.Spec PyProof.Rows L2
/-! loops -/
def RS.lp (r : RS) (f : En → Sto → RS) : RS := match r with
  | .nx en S => f en S
  | .ct en S => f en S
  | q => q
section
variable {en : En} {S : Sto} {f : En → Sto → RS} {v : PV} {c : Nat}
@[simp] theorem lp_nx : (RS.nx en S).lp f = f en S := id rfl
@[simp] theorem lp_ct : (RS.ct en S).lp f = f en S := id rfl
@[simp] theorem lp_rt : (RS.rt v S).lp f = .rt v S := id rfl
@[simp] theorem lp_ex : (RS.ex c en S).lp f = .ex c en S := id rfl
@[simp] theorem lp_no : (RS.no).lp f = .no := id rfl
end
def kTg (b : En → Sto → RS) (f : En → Sto → RS) (S : Sto) (o : Option En) : RS := match o with
  | some en => (b en S).lp f
  | none => .no
@[simp] theorem kTg_ {b f : En → Sto → RS} {S : Sto} {en : En} : kTg b f S (some en) = (b en S).lp f := id rfl
theorem for_nil {tg : Tg} {w : Wt} {b : En → Sto → RS} {en : En} {S : Sto} (h : wtOk w S = true) : forL tg w b [] en S = .nx en S := by
  unfold forL
  rw [if_pos h]
theorem for_cons {tg : Tg} {w : Wt} {b : En → Sto → RS} {x : PV} {r : List PV} {en : En} {S : Sto} (h : wtOk w S = true) : forL tg w b (x :: r) en S = kTg b (forL tg w b r) S (tgV tg x en) := by
  rw [forL]
  rw [if_pos h]
  cases tgV tg x en with
  | none => rfl
  | some e => dsimp only [kTg, RS.lp] <;> cases b e S <;> rfl
@[simp] theorem wt_nil {S : Sto} : wtOk [] S = true := id rfl
@[simp] theorem for_nil0 {tg : Tg} {b : En → Sto → RS} {en : En} {S : Sto} : forL tg [] b [] en S = .nx en S := for_nil rfl
theorem for_cons0 {tg : Tg} {b : En → Sto → RS} {x : PV} {r : List PV} {en : En} {S : Sto} : forL tg [] b (x :: r) en S = kTg b (forL tg [] b r) S (tgV tg x en) := for_cons rfl
/-- a loop by what holds ahead of each turn -/
theorem for_inv {tg : Tg} {w : Wt} {b : En → Sto → RS} (I : List PV → En → Sto → Prop) {its : List PV} {en : En} {S : Sto}
    (hw : ∀ r en S, I r en S → wtOk w S = true)
    (hs : ∀ x r en S, I (x :: r) en S → ∃ en1 en2 S2, tgV tg x en = some en1 ∧ (b en1 S = .nx en2 S2 ∨ b en1 S = .ct en2 S2) ∧ I r en2 S2)
    (h0 : I its en S) : ∃ en' S', forL tg w b its en S = .nx en' S' ∧ I [] en' S' := by
  induction its generalizing en S with
  | nil => exact ⟨en, S, for_nil (hw _ _ _ h0), h0⟩
  | cons x r ih =>
    obtain ⟨en1, en2, S2, ht, hb, hi⟩ := hs _ _ _ _ h0
    obtain ⟨e', S', e, q⟩ := ih hi
    refine ⟨e', S', ?_, q⟩
    rw [for_cons (hw _ _ _ h0), ht, kTg_]
    rcases hb with hb | hb <;> (rw [hb]; exact e)
/-- a loop that may end ahead of its end -/
theorem for_post {tg : Tg} {w : Wt} {b : En → Sto → RS} (I : List PV → En → Sto → Prop) (Q : RS → Prop) {its : List PV} {en : En} {S : Sto}
    (hw : ∀ r en S, I r en S → wtOk w S = true)
    (hs : ∀ x r en S, I (x :: r) en S → ∃ en1, tgV tg x en = some en1 ∧ ((∃ en2 S2, (b en1 S = .nx en2 S2 ∨ b en1 S = .ct en2 S2) ∧ I r en2 S2) ∨ (∃ v S2, b en1 S = .rt v S2 ∧ Q (.rt v S2)) ∨ ∃ c en2 S2, b en1 S = .ex c en2 S2 ∧ Q (.ex c en2 S2)))
    (hd : ∀ en S, I [] en S → Q (.nx en S)) (h0 : I its en S) : Q (forL tg w b its en S) := by
  induction its generalizing en S with
  | nil => rw [for_nil (hw _ _ _ h0)]; exact hd _ _ h0
  | cons x r ih =>
    obtain ⟨en1, ht, h⟩ := hs _ _ _ _ h0
    rw [for_cons (hw _ _ _ h0), ht, kTg_]
    rcases h with ⟨en2, S2, hb, hi⟩ | ⟨v, S2, hb, q⟩ | ⟨c, en2, S2, hb, q⟩
    · rcases hb with hb | hb <;> (rw [hb]; exact ih hi)
    · rw [hb]; exact q
    · rw [hb]; exact q
/-- while: a measure -/
theorem while_post {t : En → Sto → R Bool} {b : En → Sto → RS} (I : Nat → En → Sto → Prop) (Q : RS → Prop)
    (hs : ∀ k en S, I k en S → ∃ c S1, t en S = .ok c S1 ∧ (c = false → Q (.nx en S1)) ∧ (c = true → (∃ k' en2 S2, k' < k ∧ (b en S1 = .nx en2 S2 ∨ b en S1 = .ct en2 S2) ∧ I k' en2 S2) ∨ (∃ v S2, b en S1 = .rt v S2 ∧ Q (.rt v S2)) ∨ ∃ c' en2 S2, b en S1 = .ex c' en2 S2 ∧ Q (.ex c' en2 S2))) :
    ∀ (n k : Nat) (en : En) (S : Sto), I k en S → k < n → Q (whileL t b n en S)
  | 0, k, en, S, _, h => absurd h (Nat.not_lt_zero _)
  | n + 1, k, en, S, hi, h => by
    obtain ⟨c, S1, ht, h0, h1⟩ := hs k en S hi
    rw [whileL, ht, st_ok]
    cases c with
    | false => exact h0 rfl
    | true =>
      rw [if_pos rfl]
      rcases h1 rfl with ⟨k', en2, S2, hk, hb, hi2⟩ | ⟨v, S2, hb, q⟩ | ⟨c', en2, S2, hb, q⟩
      · rcases hb with hb | hb <;> (rw [hb]; exact while_post I Q hs n k' en2 S2 hi2 (by omega))
      · rw [hb]; exact q
      · rw [hb]; exact q
/-! comprehensions -/
def kE (f : List P → Sto → R Unit) (D : Nat) (x : PV) (S : Sto) : R Unit := match x with
  | .p y => (match S[D]? with
    | some (.lst acc) => if acc.length < 1000000 then f acc (S.set D (.lst (acc ++ [y]))) else .no
    | _ => .no)
  | _ => .no
theorem comp_nil {el : En → Sto → R PV} {tst : En → Sto → R Bool} {i D : Nat} {w : Wt} {en : En} {S : Sto} (h : wtOk w S = true) : compL el tst i w D [] en S = .ok () S := by
  unfold compL
  rw [if_pos h]
theorem comp_in {el : En → Sto → R PV} {tst : En → Sto → R Bool} {i D : Nat} {w : Wt} {x : PV} {r : List PV} {en : En} {S S1 S2 : Sto} {y : P} {acc : List P} (h : wtOk w S = true)
    (ht : tst (en.set i (some x)) S = .ok true S1) (he : el (en.set i (some x)) S1 = .ok (.p y) S2) (hD : S2[D]? = some (.lst acc)) (hl : acc.length < 1000000) :
    compL el tst i w D (x :: r) en S = compL el tst i w D r en (S2.set D (.lst (acc ++ [y]))) := by
  rw [compL, if_pos h, ht]
  dsimp only
  rw [he]
  dsimp only
  rw [hD]
  dsimp only
  rw [if_pos hl]
theorem comp_out {el : En → Sto → R PV} {tst : En → Sto → R Bool} {i D : Nat} {w : Wt} {x : PV} {r : List PV} {en : En} {S S1 : Sto} (h : wtOk w S = true)
    (ht : tst (en.set i (some x)) S = .ok false S1) : compL el tst i w D (x :: r) en S = compL el tst i w D r en S1 := by
  rw [compL, if_pos h, ht]
theorem pd_lst : ∀ {xs : List P}, (∀ x ∈ xs, pdB x x = true) → (xs.zip xs).all (fun q => pdB q.1 q.2) = true
  | [], _ => rfl
  | x :: xs, h => by
    simp only [List.zip_cons_cons, List.all_cons, Bool.and_eq_true]
    exact ⟨h x List.mem_cons_self, pd_lst fun y hy => h y (List.mem_cons_of_mem _ hy)⟩
/-- what stands where it stood -/
def wtP (w : Wt) : Prop := ∀ q ∈ w, ∀ x ∈ q.2, pdB x x = true
theorem wt_ok : ∀ {w : Wt} {S : Sto}, wtP w → (∀ q ∈ w, S[q.1]? = some (.lst q.2)) → wtOk w S = true
  | [], _, _, _ => rfl
  | (i, xs) :: r, S, hp, h => by
    have h1 := h (i, xs) List.mem_cons_self
    unfold wtOk
    rw [h1]
    dsimp only
    rw [pd_lst (hp (i, xs) List.mem_cons_self), wt_ok (fun q hq => hp q (List.mem_cons_of_mem _ hq)) fun q hq => h q (List.mem_cons_of_mem _ hq)]
    simp
/-- a comprehension over what changes nothing: S0 the store at its start -/
theorem compL_ok {el : En → Sto → R PV} {tst : En → Sto → R Bool} {i : Nat} {w : Wt} {α : Type} {S0 : Sto} {en : En} (inj : α → PV) (t : α → Bool) (f : α → P) (hp : wtP w) (hw : ∀ q ∈ w, S0[q.1]? = some (.lst q.2))
    : ∀ (xs : List α) (acc : List P), (∀ x ∈ xs, ∀ acc : List P, tst (en.set i (some (inj x))) (S0 ++ [.lst acc]) = .ok (t x) (S0 ++ [.lst acc]) ∧ (t x = true → el (en.set i (some (inj x))) (S0 ++ [.lst acc]) = .ok (.p (f x)) (S0 ++ [.lst acc]))) →
      acc.length + xs.length ≤ 1000000 → compL el tst i w S0.length (xs.map inj) en (S0 ++ [.lst acc]) = .ok () (S0 ++ [.lst (acc ++ (xs.filter t).map f)])
  | [], acc, _, _ => by
    rw [List.map_nil, comp_nil (wt_ok hp fun q hq => by rw [List.getElem?_append_left (getE_lt (hw q hq))]; exact hw q hq)]
    simp
  | x :: xs, acc, h, hl => by
    have wk : wtOk w (S0 ++ [.lst acc]) = true := wt_ok hp fun q hq => by rw [List.getElem?_append_left (getE_lt (hw q hq))]; exact hw q hq
    obtain ⟨h1, h2⟩ := h x List.mem_cons_self acc
    rw [List.map_cons]
    have hl2 : acc.length + (xs.length + 1) ≤ 1000000 := hl
    cases q : t x with
    | false =>
      rw [q] at h1
      rw [comp_out wk h1, compL_ok inj t f hp hw xs acc (fun y hy => h y (List.mem_cons_of_mem _ hy)) (by omega), List.filter_cons, q]
      rfl
    | true =>
      rw [q] at h1
      have e2 : (S0 ++ [Cell.lst acc]).set S0.length (.lst (acc ++ [f x])) = S0 ++ [.lst (acc ++ [f x])] := by simp
      rw [comp_in wk h1 (h2 q) (acc := acc) (by simp) (by omega), e2, compL_ok inj t f hp hw xs (acc ++ [f x]) (fun y hy => h y (List.mem_cons_of_mem _ hy)) (by rw [List.length_append]; simp; omega), List.filter_cons, q]
      simp
/-! a text's signs -/
def chs (s : Str) : List PV := s.cps.toList.map fun c => .p (.str ⟨#[c]⟩)
section
variable {S : Sto} {s : Str} {xs : List P} {l : Nat}
@[simp] theorem val_s : valI (.p (.str s)) S = .ok (chs s, []) S := id rfl
@[simp] theorem val_t : valI (.p (.tuple xs)) S = .ok (xs.map .p, []) S := id rfl
@[simp] theorem val_l : valI (.p (.list xs)) S = .ok (xs.map .p, []) S := id rfl
def valC (c : Option Cell) (l : Nat) (S : Sto) : R Its' := match c with
  | some (.lst xs) => .ok (xs.map .p, [(l, xs)]) S
  | _ => .no
@[simp] theorem val_loc : valI (.loc l) S = valC S[l]? l S := id rfl
@[simp] theorem valC_ : valC (some (.lst xs)) l S = .ok (xs.map .p, [(l, xs)]) S := id rfl
@[simp] theorem rng_ {a b : Int} (h : -4611686018427387904 ≤ a ∧ a < 4611686018427387904 ∧ -4611686018427387904 ≤ b ∧ b < 4611686018427387904) : rngI a b S = .ok ((List.range (b - a).toNat).map fun (k : Nat) => .p (.int (a + k)), []) S := if_pos h
def zipC (c d : Option Cell) (l k : Nat) (S : Sto) : R Its' := match c, d with
  | some (.lst xs), some (.lst ys) => if xs.length = ys.length then .ok ((xs.zip ys).map fun q => .p (.tuple [q.1, q.2]), [(l, xs), (k, ys)]) S else .no
  | _, _ => .no
@[simp] theorem zip_loc {k : Nat} : zipI (.loc l) (.loc k) S = zipC S[l]? S[k]? l k S := id rfl
@[simp] theorem zipC_ {ys : List P} {k : Nat} (h : xs.length = ys.length) : zipC (some (.lst xs)) (some (.lst ys)) l k S = .ok ((xs.zip ys).map fun q => .p (.tuple [q.1, q.2]), [(l, xs), (k, ys)]) S := if_pos h
def rvlC (c : Option Cell) (l : Nat) (S : Sto) : R Its' := match c with
  | some (.lst xs) => .ok (xs.reverse.map .p, [(l, xs)]) S
  | _ => .no
@[simp] theorem rvl_loc : revI (.loc l) S = rvlC S[l]? l S := id rfl
@[simp] theorem rvlC_ : rvlC (some (.lst xs)) l S = .ok (xs.reverse.map .p, [(l, xs)]) S := id rfl
@[simp] theorem rvl_t : revI (.p (.tuple xs)) S = .ok (xs.reverse.map .p, []) S := id rfl
end
@[simp] theorem len_of {s : String} : (Str.ofString s).length = s.length := by
  show (Str.ofString s).cps.size = _
  rw [Str.ofString_eq_toList]
  simp
  first | rfl | exact String.length_toList | exact (String.length_toList).symm
theorem cps_of {s : String} : (Str.ofString s).cps.toList = s.toList.map Char.toNat := by rw [Str.ofString_eq_toList]
theorem pd_e : ∀ t : Th, pdB t.e t.e = true
  | .var n => by simp [Th.e, pdB, pdBs]
  | .nm n => by simp [Th.e, pdB, pdBs]
  | .n0 w => by simp [Th.e, pdB, pdBs]
  | .n1 w a => by simp [Th.e, pdB, pdBs, pd_e a]
  | .n2 w a b => by simp [Th.e, pdB, pdBs, pd_e a, pd_e b]
  | .n3 w a b c => by simp [Th.e, pdB, pdBs, pd_e a, pd_e b, pd_e c]
  | .rc a b c d => by simp [Th.e, pdB, pdBs, pd_e a, pd_e b, pd_e c, pd_e d]
section
variable {k k' : Key} {v x : P} {r : List (Key × P)} {ks : List Str} {a : Str} {vs : List PV} {acc : List (Key × P)}
@[simp] theorem luK_nil : luK [] k = none := id rfl
@[simp] theorem luK_cons : luK ((k', v) :: r) k = if k' = k then some v else luK r k := by
  unfold luK
  rw [List.find?_cons]
  by_cases h : k' = k
  · simp [h]
  · simp [h]
@[simp] theorem dctV_nil : dctV [] [] acc = some acc := id rfl
@[simp] theorem dctV_cons : dctV (a :: ks) (.p x :: vs) acc = dctV ks vs (puK acc (.inr a) x) := id rfl
@[simp] theorem puK_nil : puK [] k v = [(k, v)] := id rfl
end
def Sms.tk : Nat → Sms → Sms
  | 0, _ => .nil
  | _ + 1, .nil => .nil
  | n + 1, .cons s r => .cons s (r.tk n)
def Sms.dr : Nat → Sms → Sms
  | 0, m => m
  | _ + 1, .nil => .nil
  | n + 1, .cons _ r => r.dr n
theorem exss_split {cl : Cl} : ∀ (k : Nat) (m : Sms) (en : En) (S : Sto), exss cl m en S = (exss cl (m.tk k) en S).seq (exss cl (m.dr k))
  | 0, m, en, S => by simp [Sms.tk, Sms.dr]
  | k + 1, .nil, en, S => by simp [Sms.tk, Sms.dr]
  | k + 1, .cons s r, en, S => by
    simp only [Sms.tk, Sms.dr, exss_cons]
    cases exs cl s en S with
    | nx e S => exact exss_split k r e S
    | _ => rfl
/-! comprehensions over few items -/
def R.nb {α : Type} (r : R α) (f : α → Sto → R Unit) : R Unit := match r with
  | .ok a S => f a S
  | _ => .no
section
variable (el : En → Sto → R PV) (tst : En → Sto → R Bool) (i D : Nat) (r : List PV) (en : En)
def cA (c : Option Cell) (y : P) (S : Sto) : R Unit := match c with
  | some (.lst acc) => if acc.length < 1000000 then compL el tst i [] D r en (S.set D (.lst (acc ++ [y]))) else .no
  | _ => .no
def kE2 (x : PV) (S : Sto) : R Unit := match x with
  | .p y => cA el tst i D r en S[D]? y S
  | _ => .no
def kT (x : PV) (b : Bool) (S : Sto) : R Unit := match b with
  | true => (el (en.set i (some x)) S).nb (kE2 el tst i D r en)
  | false => compL el tst i [] D r en S
end
section
variable {el : En → Sto → R PV} {tst : En → Sto → R Bool} {i D : Nat} {x : PV} {r : List PV} {en : En} {S : Sto} {y : P} {acc : List P} {u : Unit}
@[simp] theorem nb_ok {α : Type} {a : α} {f : α → Sto → R Unit} : (R.ok a S).nb f = f a S := id rfl
@[simp] theorem cA_ (h : acc.length < 1000000) : cA el tst i D r en (some (.lst acc)) y S = compL el tst i [] D r en (S.set D (.lst (acc ++ [y]))) := if_pos h
@[simp] theorem kE2_ : kE2 el tst i D r en (.p y) S = cA el tst i D r en S[D]? y S := id rfl
@[simp] theorem kT_t : kT el tst i D r en x true S = (el (en.set i (some x)) S).nb (kE2 el tst i D r en) := id rfl
@[simp] theorem kT_f : kT el tst i D r en x false S = compL el tst i [] D r en S := id rfl
@[simp] theorem compL_nil : compL el tst i [] D [] en S = .ok () S := comp_nil rfl
@[simp] theorem compL_cons : compL el tst i [] D (x :: r) en S = (tst (en.set i (some x)) S).nb (kT el tst i D r en x) := by
  rw [compL, if_pos wt_nil]
  cases tst (en.set i (some x)) S with
  | ok b S1 =>
    cases b with
    | false => rfl
    | true =>
      dsimp only [R.nb, kT]
      cases el (en.set i (some x)) S1 with
      | ok v S2 =>
        cases v with
        | p y =>
          dsimp only [kE2]
          cases S2[D]? with
          | none => rfl
          | some c => cases c <;> rfl
        | _ => rfl
      | _ => rfl
  | _ => rfl
@[simp] theorem kCmpD_ : kCmpD D u S = .ok (.loc D) S := id rfl
end
section
variable {cl : Cl} {i D : Nat} {w : Wt} {x : PV} {r : List PV} {en : En} {S : Sto} {tst : Oe} {e : Ex} {its : List PV}
@[simp] theorem kComp_ {q : Its'} : kComp cl en i tst e q S = (compL (ev cl e) (evC cl tst) i q.2 S.length q.1 en (S ++ [.lst []])).bind (kCmpD S.length) := id rfl
end
@[simp] theorem tgV_2 {i j : Nat} {x y : P} {en : En} : tgV (.tp [i, j]) (.p (.tuple [x, y])) en = some ((en.set i (some (.p x))).set j (some (.p y))) := id rfl
def wtC (c : Option Cell) (xs : List P) : Bool := match c with
  | some (.lst ys) => decide (ys.length = xs.length) && (ys.zip xs).all (fun q => pdB q.1 q.2)
  | _ => false
@[simp] theorem wt_cons {i : Nat} {xs : List P} {r : Wt} {S : Sto} : wtOk ((i, xs) :: r) S = (wtC S[i]? xs && wtOk r S) := id rfl
@[simp] theorem wtC_ {xs : List P} (h : ∀ x ∈ xs, pdB x x = true) : wtC (some (.lst xs)) xs = true := by
  unfold wtC
  dsimp only
  rw [pd_lst h]
  simp
@[simp] theorem pd_e' {t : Th} : pdB t.e t.e = true := pd_e t
@[simp] theorem pd_i {i : Int} : pdB (.int i) (.int i) = true := by simp [pdB]
@[simp] theorem pd_s {i : Str} : pdB (.str i) (.str i) = true := by simp [pdB]
end Kp

set_option Elab.async false
set_option linter.all false
set_option maxRecDepth 100000
set_option maxHeartbeats 8000000
set_option autoImplicit false
/-! S1: what the small defs do. -/
namespace Kp
open PySem PySem.Spec PyProof.Rows L2
abbrev Cf := List PV → Sto → R PV
def SKids (c : Cf) : Prop := ∀ t S, c [.p (Th.e t)] S = .ok (.loc S.length) (S ++ [.lst ((Th.kids t).map Th.e)])
def SBinds (c : Cf) : Prop := ∀ t S, c [.p (Th.e t)] S = .ok (.loc S.length) (S ++ [.lst ((Th.binds t).map fun (n : Nat) => .int (n : Int))])
def SNext (c : Cf) : Prop := ∀ (S : Sto) (i : Nat) (a b : Int), S[i]? = some (.lst [.int a, .int b]) → c [.loc i] S = .ok (.p (.int (a * 48271 % 2147483647 / 7))) (S.set i (.lst [.int (a * 48271 % 2147483647), .int (b - 1)]))
section
variable {cl : Cl} {S : Sto}
theorem kids_ok : SKids (runD cl 1 1 m_kids_of) := by
  intro t S
  unfold m_kids_of
  cases t with
  | n1 w a => cases w <;> simp [runD]
  | n0 w => cases w <;> simp [runD]
  | n2 w a b => cases w <;> simp [runD]
  | n3 w a b c => cases w <;> simp [runD]
  | _ => simp [runD]
theorem binds_ok {k : Nat} (h0 : SKids (cl k)) : SBinds (runD cl 1 1 (m_binds_of k)) := by
  intro t S
  unfold m_binds_of
  unfold SKids at h0
  cases t with
  | n1 w a => cases w <;> simp [runD, h0]
  | n0 w => cases w <;> simp [runD, h0]
  | n2 w a b => cases w <;> simp [runD, h0]
  | n3 w a b c => cases w <;> simp [runD, h0]
  | _ => simp [runD, h0]
theorem cell_ok {ns : List Int} {k : Nat} : runD cl 2 2 m_l_cell_at [.p (.list (ns.map PyData.int)), .p (.int k)] S = .ok (.p (.int (ns[k]?.getD 0))) S := by
  unfold m_l_cell_at
  by_cases h : k < ns.length
  · simp [runD, h, ix_n]
  · simp [runD, h]
theorem next_ok : SNext (runD cl 1 1 m_l_next) := by
  intro S i a b h
  unfold m_l_next
  simp [runD, h, has_of h]
theorem state_ok {c m : Int} (h : 0 ≤ m) : runD cl 2 2 m_l_state [.p (.int c), .p (.int m)] S = .ok (.loc S.length) (S ++ [.lst [.int (1 + c % 2147483646), .int (c / 3 % (m + 1))]]) := by
  unfold m_l_state
  have h2 : 0 < m + 1 := by omega
  simp [runD, h2]
/-- the shapes -/
def words : List (Str × Str) := [("nat", ""), ("none", ""), ("zero", ""), ("all", "kk"), ("some", "kk"), ("same", "ktt"), ("fun", "kt"), ("app", "tt"), ("next", "t"), ("rec", "kttt"), ("like", "kt"), ("carry", "ktt"), ("never", "kt"), ("pair", "ktt"), ("first", "t"), ("second", "t"), ("var", "n"), ("name", "w")]
def SShape (c : Cf) : Prop := ∀ S, ∀ q ∈ words, c [.p (.str q.1)] S = .ok (.p (.str q.2)) S
theorem shp1 : dctV ["nat", "none", "zero", "all", "some", "same", "fun", "app"] [.p (.str ""), .p (.str ""), .p (.str ""), .p (.str "kk"), .p (.str "kk"), .p (.str "ktt"), .p (.str "kt"), .p (.str "tt")] [] =
    some [(.inr "nat", .str ""), (.inr "none", .str ""), (.inr "zero", .str ""), (.inr "all", .str "kk"), (.inr "some", .str "kk"), (.inr "same", .str "ktt"), (.inr "fun", .str "kt"), (.inr "app", .str "tt")] := by kernel_rfl
theorem shp2 : dctV ["next", "rec", "like", "carry", "never", "pair", "first"] [.p (.str "t"), .p (.str "kttt"), .p (.str "kt"), .p (.str "ktt"), .p (.str "kt"), .p (.str "ktt"), .p (.str "t")] [] =
    some [(.inr "next", .str "t"), (.inr "rec", .str "kttt"), (.inr "like", .str "kt"), (.inr "carry", .str "ktt"), (.inr "never", .str "kt"), (.inr "pair", .str "ktt"), (.inr "first", .str "t")] := by kernel_rfl
theorem shp3 : dctV ["second", "var", "name"] [.p (.str "t"), .p (.str "n"), .p (.str "w")] [] = some [(.inr "second", .str "t"), (.inr "var", .str "n"), (.inr "name", .str "w")] := by kernel_rfl
theorem shape_ok : SShape (runD cl 1 3 m_l_shape) := by
  intro S q hq
  unfold m_l_shape
  unfold words at hq
  simp only [List.mem_cons, List.not_mem_nil, or_false] at hq
  rcases hq with rfl | rfl | rfl | rfl | rfl | rfl | rfl | rfl | rfl | rfl | rfl | rfl | rfl | rfl | rfl | rfl | rfl | rfl <;> simp [runD, shp1, shp2, shp3, -dctV_cons]
end
end Kp

set_option Elab.async false
set_option linter.all false
set_option maxRecDepth 100000
set_option maxHeartbeats 8000000
set_option autoImplicit false
/-! S2: things grown. -/
namespace Kp
open PySem PySem.Spec PyProof.Rows L2
/-! names -/
def nmW (n : Int) : Str := cutS "abcdefghijklmnopqrstuvwxyzabcdefghijkl" (some (n % 26)) (some (n % 26 + 1 + n / 26 % 12))
def nmOf (n : Int) : Str := if n / 312 % 3 = 1 then cutS (cutS (nmW n) none (some 1) ++ revS (nmW n)) none (some 12) else if n / 312 % 3 = 2 then cutS ("o" ++ nmW n ++ nmW n) none (some 12) else nmW n
def SName (c : Cf) : Prop := ∀ S n, c [.p (.int n)] S = .ok (.p (.str (nmOf n))) S
theorem nmW_len {n : Int} : (nmW n).length ≤ 38 := by
  unfold nmW
  exact cutS_len (by rw [len_of]; decide +kernel)
theorem name_ok {cl : Cl} : SName (runD cl 1 3 m_l_name) := by
  intro S n
  unfold m_l_name
  have k0 : "abcdefghijklmnopqrstuvwxyzabcdefghijkl".length = 38 := by decide +kernel
  have k1 : "o".length = 1 := by decide +kernel
  have e0 : cutS (Str.ofString "abcdefghijklmnopqrstuvwxyzabcdefghijkl") (some (n % 26)) (some (n % 26 + 1 + n / 26 % 12)) = nmW n := rfl
  have l0 := nmW_len (n := n)
  have l1 : (nmW n).length ≤ 1000000 := by omega
  have l2 : (cutS (nmW n) none (some 1)).length + (nmW n).length ≤ 1000000 := by have := cutS_len (lo := none) (hi := some 1) l0; omega
  have l3 : 1 + (nmW n).length ≤ 1000000 := by omega
  have l4 : 1 + (nmW n).length + (nmW n).length ≤ 1000000 := by omega
  by_cases h1 : n / 312 % 3 = 1
  · simp only [nmOf, if_pos h1]
    simp [runD, k0, e0, h1, l1, l2]
  · by_cases h2 : n / 312 % 3 = 2
    · simp only [nmOf, if_neg h1, if_pos h2]
      simp [runD, k0, k1, e0, h2, l1, l3, l4]
    · simp only [nmOf, if_neg h1, if_neg h2]
      simp [runD, k0, e0, h1, h2, l1]
/-! things -/
/-- a thing of a sort (true: a term), of so much depth -/
def Th.ok (vp : Int → Prop) (np : Str → Prop) : Bool → Nat → Th → Prop
  | _, 0, _ => False
  | b, _ + 1, .var n => b = true ∧ vp n
  | b, _ + 1, .nm s => b = true ∧ np s
  | b, _ + 1, .n0 .zero => b = true
  | b, _ + 1, .n0 _ => b = false
  | b, d + 1, .n1 _ a => b = true ∧ a.ok vp np true d
  | b, d + 1, .n2 .all x y => b = false ∧ x.ok vp np false d ∧ y.ok vp np false d
  | b, d + 1, .n2 .some x y => b = false ∧ x.ok vp np false d ∧ y.ok vp np false d
  | b, d + 1, .n2 .app x y => b = true ∧ x.ok vp np true d ∧ y.ok vp np true d
  | b, d + 1, .n2 _ x y => b = true ∧ x.ok vp np false d ∧ y.ok vp np true d
  | b, d + 1, .n3 .same x y z => b = false ∧ x.ok vp np false d ∧ y.ok vp np true d ∧ z.ok vp np true d
  | b, d + 1, .n3 _ x y z => b = true ∧ x.ok vp np false d ∧ y.ok vp np true d ∧ z.ok vp np true d
  | b, d + 1, .rc x y z u => b = true ∧ x.ok vp np false d ∧ y.ok vp np true d ∧ z.ok vp np true d ∧ u.ok vp np true d
def sc (b : Bool) : Str := if b then "t" else "k"
/-- as it is grown -/
abbrev Th.gr (b : Bool) (d : Nat) (t : Th) : Prop := t.ok (fun n => 0 ≤ n ∧ n < 100) (fun s => ∃ n, s = nmOf n) b d
def oks (l : Nat) : List Bool → List Th → Prop
  | [], [] => True
  | b :: so, t :: ts => t.gr b l ∧ oks l so ts
  | _, _ => False
def SGrown (c : Cf) (l : Nat) : Prop := ∀ (b : Bool) (S : Sto) (i : Nat) (a n : Int), S[i]? = some (.lst [.int a, .int n]) → 0 ≤ a → ∃ (t : Th) (a' n' : Int), 0 ≤ a' ∧ t.gr b l ∧
  c [.loc i, .p (.str (sc b)), .p (.int l)] S = .ok (.p t.e) (S.set i (.lst [.int a', .int n']))
theorem set_same {S : Sto} {i : Nat} {c : Cell} (h : S[i]? = some c) : S.set i c = S := by
  apply List.ext_getElem?
  intro j
  by_cases e : i = j
  · subst e; rw [List.getElem?_set_self (getE_lt h), h]
  · rw [List.getElem?_set_ne e]
theorem grow_loop {cl : Cl} {g l i D : Nat} {want num word words : Option PV} (ih : SGrown (cl g) l) (hD : i ≠ D) : ∀ (so : List Bool) (kd : Option PV) (S : Sto) (parts : List P) (a n : Int),
    S[i]? = some (.lst [.int a, .int n]) → S[D]? = some (.lst parts) → parts.length + so.length ≤ 100 → 0 ≤ a →
    ∃ (ts : List Th) (a' n' : Int) (kd' : Option PV), 0 ≤ a' ∧ oks l so ts ∧
      forL (.nm 6) [] (exss cl (.cons (.ex (.mth .append (.v 5) (.cons (.call g (.cons (.v 0) (.cons (.v 6) (.cons (.bin .sub (.v 2) (.c (.int 1))) .nil)))) .nil))) .nil)) (so.map fun b => .p (.str (sc b)))
        [some (.loc i), want, some (.p (.int (((l + 1 : Nat) : Int)))), num, word, some (.loc D), kd, words] S =
      .nx [some (.loc i), want, some (.p (.int (((l + 1 : Nat) : Int)))), num, word, some (.loc D), kd', words] ((S.set i (.lst [.int a', .int n'])).set D (.lst (parts ++ ts.map Th.e)))
  | [], kd, S, parts, a, n, h1, h2, h3, h4 => by
    refine ⟨[], a, n, kd, h4, trivial, ?_⟩
    rw [set_same h1]
    simp [set_same h2]
  | b :: so, kd, S, parts, a, n, h1, h2, h3, h4 => by
    obtain ⟨t, a1, n1, p1, p2, p3⟩ := ih b S i a n h1 h4
    have q1 : (S.set i (.lst [.int a1, .int n1]))[D]? = some (.lst parts) := by rw [List.getElem?_set_ne hD]; exact h2
    have h3' : parts.length + (so.length + 1) ≤ 100 := h3
    have hl : parts.length < 1000000 := by omega
    obtain ⟨ts, a2, n2, kd', r1, r2, r3⟩ := grow_loop ih hD so (some (.p (.str (sc b)))) ((S.set i (.lst [.int a1, .int n1])).set D (.lst (parts ++ [t.e]))) (parts ++ [t.e]) a1 n1
      (by rw [List.getElem?_set_ne (Ne.symm hD)]; exact set_at (has_of h1)) (set_at (has_set (has_of h2))) (by simp; omega) p1
    refine ⟨t :: ts, a2, n2, kd', r1, ⟨p2, r2⟩, ?_⟩
    rw [List.map_cons, for_cons0]
    have e1 : (((l + 1 : Nat) : Int) - 1) = (l : Int) := by omega
    simp [h2, e1, p3, q1, hl]
    simp at r3
    rw [r3]
    congr 1
    rw [List.set_comm _ _ (Ne.symm hD), List.set_set, List.set_set]
/-- the words of a kind, of a term -/
def hdW : List (Str × List Bool × Bool) := [("nat", [], false), ("none", [], false), ("zero", [], true), ("all", [false, false], false), ("some", [false, false], false), ("same", [false, true, true], false), ("fun", [false, true], true), ("app", [true, true], true), ("next", [true], true), ("rec", [false, true, true, true], true), ("like", [false, true], true), ("carry", [false, true, true], true), ("never", [false, true], true), ("pair", [false, true, true], true), ("first", [true], true), ("second", [true], true)]
theorem oks0 {l : Nat} {ts : List Th} (h : oks l [] ts) : ts = [] := by
  cases ts with
  | nil => rfl
  | cons _ _ => exact h.elim
theorem oksS {l : Nat} {b : Bool} {so : List Bool} {ts : List Th} (h : oks l (b :: so) ts) : ∃ t r, ts = t :: r ∧ t.gr b l ∧ oks l so r := by
  cases ts with
  | nil => exact h.elim
  | cons t r => exact ⟨t, r, rfl, h.1, h.2⟩
theorem hd_mk {q : Str × List Bool × Bool} (hq : q ∈ hdW) {l : Nat} {ts : List Th} (h : oks l q.2.1 ts) : ∃ t : Th, t.gr q.2.2 (l + 1) ∧ t.e = .tuple (.str q.1 :: ts.map Th.e) := by
  unfold hdW at hq
  simp only [List.mem_cons, List.not_mem_nil, or_false] at hq
  rcases hq with rfl | rfl | rfl | rfl | rfl | rfl | rfl | rfl | rfl | rfl | rfl | rfl | rfl | rfl | rfl | rfl
  · cases oks0 h; exact ⟨.n0 .nat, rfl, rfl⟩
  · cases oks0 h; exact ⟨.n0 .none, rfl, rfl⟩
  · cases oks0 h; exact ⟨.n0 .zero, rfl, rfl⟩
  · obtain ⟨a, r, rfl, g1, h⟩ := oksS h; obtain ⟨b, r, rfl, g2, h⟩ := oksS h; cases oks0 h
    exact ⟨.n2 .all a b, ⟨rfl, g1, g2⟩, rfl⟩
  · obtain ⟨a, r, rfl, g1, h⟩ := oksS h; obtain ⟨b, r, rfl, g2, h⟩ := oksS h; cases oks0 h
    exact ⟨.n2 .some a b, ⟨rfl, g1, g2⟩, rfl⟩
  · obtain ⟨a, r, rfl, g1, h⟩ := oksS h; obtain ⟨b, r, rfl, g2, h⟩ := oksS h; obtain ⟨c, r, rfl, g3, h⟩ := oksS h; cases oks0 h
    exact ⟨.n3 .same a b c, ⟨rfl, g1, g2, g3⟩, rfl⟩
  · obtain ⟨a, r, rfl, g1, h⟩ := oksS h; obtain ⟨b, r, rfl, g2, h⟩ := oksS h; cases oks0 h
    exact ⟨.n2 .fun' a b, ⟨rfl, g1, g2⟩, rfl⟩
  · obtain ⟨a, r, rfl, g1, h⟩ := oksS h; obtain ⟨b, r, rfl, g2, h⟩ := oksS h; cases oks0 h
    exact ⟨.n2 .app a b, ⟨rfl, g1, g2⟩, rfl⟩
  · obtain ⟨a, r, rfl, g1, h⟩ := oksS h; cases oks0 h
    exact ⟨.n1 .next a, ⟨rfl, g1⟩, rfl⟩
  · obtain ⟨a, r, rfl, g1, h⟩ := oksS h; obtain ⟨b, r, rfl, g2, h⟩ := oksS h; obtain ⟨c, r, rfl, g3, h⟩ := oksS h; obtain ⟨d, r, rfl, g4, h⟩ := oksS h; cases oks0 h
    exact ⟨.rc a b c d, ⟨rfl, g1, g2, g3, g4⟩, rfl⟩
  · obtain ⟨a, r, rfl, g1, h⟩ := oksS h; obtain ⟨b, r, rfl, g2, h⟩ := oksS h; cases oks0 h
    exact ⟨.n2 .like a b, ⟨rfl, g1, g2⟩, rfl⟩
  · obtain ⟨a, r, rfl, g1, h⟩ := oksS h; obtain ⟨b, r, rfl, g2, h⟩ := oksS h; obtain ⟨c, r, rfl, g3, h⟩ := oksS h; cases oks0 h
    exact ⟨.n3 .carry a b c, ⟨rfl, g1, g2, g3⟩, rfl⟩
  · obtain ⟨a, r, rfl, g1, h⟩ := oksS h; obtain ⟨b, r, rfl, g2, h⟩ := oksS h; cases oks0 h
    exact ⟨.n2 .never a b, ⟨rfl, g1, g2⟩, rfl⟩
  · obtain ⟨a, r, rfl, g1, h⟩ := oksS h; obtain ⟨b, r, rfl, g2, h⟩ := oksS h; obtain ⟨c, r, rfl, g3, h⟩ := oksS h; cases oks0 h
    exact ⟨.n3 .pair a b c, ⟨rfl, g1, g2, g3⟩, rfl⟩
  · obtain ⟨a, r, rfl, g1, h⟩ := oksS h; cases oks0 h
    exact ⟨.n1 .first a, ⟨rfl, g1⟩, rfl⟩
  · obtain ⟨a, r, rfl, g1, h⟩ := oksS h; cases oks0 h
    exact ⟨.n1 .second a, ⟨rfl, g1⟩, rfl⟩
theorem hd_w {q : Str × List Bool × Bool} (hq : q ∈ hdW) : (∃ s, (q.1, s) ∈ words ∧ chs s = q.2.1.map fun b => .p (.str (sc b))) ∧ q.1 ≠ "var" ∧ q.1 ≠ "name" ∧ q.2.1.length ≤ 4 := by
  unfold hdW at hq
  simp only [List.mem_cons, List.not_mem_nil, or_false] at hq
  rcases hq with rfl | rfl | rfl | rfl | rfl | rfl | rfl | rfl | rfl | rfl | rfl | rfl | rfl | rfl | rfl | rfl
  · exact ⟨⟨"", by simp [words], by kernel_rfl⟩, by simp, by simp, by decide⟩
  · exact ⟨⟨"", by simp [words], by kernel_rfl⟩, by simp, by simp, by decide⟩
  · exact ⟨⟨"", by simp [words], by kernel_rfl⟩, by simp, by simp, by decide⟩
  · exact ⟨⟨"kk", by simp [words], by kernel_rfl⟩, by simp, by simp, by decide⟩
  · exact ⟨⟨"kk", by simp [words], by kernel_rfl⟩, by simp, by simp, by decide⟩
  · exact ⟨⟨"ktt", by simp [words], by kernel_rfl⟩, by simp, by simp, by decide⟩
  · exact ⟨⟨"kt", by simp [words], by kernel_rfl⟩, by simp, by simp, by decide⟩
  · exact ⟨⟨"tt", by simp [words], by kernel_rfl⟩, by simp, by simp, by decide⟩
  · exact ⟨⟨"t", by simp [words], by kernel_rfl⟩, by simp, by simp, by decide⟩
  · exact ⟨⟨"kttt", by simp [words], by kernel_rfl⟩, by simp, by simp, by decide⟩
  · exact ⟨⟨"kt", by simp [words], by kernel_rfl⟩, by simp, by simp, by decide⟩
  · exact ⟨⟨"ktt", by simp [words], by kernel_rfl⟩, by simp, by simp, by decide⟩
  · exact ⟨⟨"kt", by simp [words], by kernel_rfl⟩, by simp, by simp, by decide⟩
  · exact ⟨⟨"ktt", by simp [words], by kernel_rfl⟩, by simp, by simp, by decide⟩
  · exact ⟨⟨"t", by simp [words], by kernel_rfl⟩, by simp, by simp, by decide⟩
  · exact ⟨⟨"t", by simp [words], by kernel_rfl⟩, by simp, by simp, by decide⟩
section
variable {cl : Cl} {sh g nm nx l i : Nat} {want words' : Option PV} {b : Bool} {S : Sto} {a n num : Int}
def tlG (cl : Cl) (sh g nm nx l i : Nat) (want words' : Option PV) (num : Int) (w : Str) (S : Sto) : RS := exss cl ((m_l_grown sh g nm nx).dr 4) [some (.loc i), want, some (.p (.int (((l + 1 : Nat) : Int)))), some (.p (.int num)), some (.p (.str w)), none, none, words'] S
def GoodT (b : Bool) (l i : Nat) (S : Sto) (r : RS) : Prop := ∃ (t : Th) (a' n' : Int) (c : Sto), 0 ≤ a' ∧ t.gr b (l + 1) ∧ r = .rt (.p t.e) (S.set i (.lst [.int a', .int n']) ++ c)
theorem tl_hd (hsh : SShape (cl sh)) {q : Str × List Bool × Bool} (hq : q ∈ hdW) (ih : q.2.1 ≠ [] → SGrown (cl g) l) (h : S[i]? = some (.lst [.int a, .int n])) (h0 : 0 ≤ a) : GoodT q.2.2 l i S (tlG cl sh g nm nx l i want words' num q.1 S) := by
  obtain ⟨⟨s, hs, hc⟩, n1, n2, hl⟩ := hd_w hq
  have hsh' := fun S => hsh S _ hs
  unfold tlG m_l_grown
  simp only [Sms.dr]
  have hi := has_of h
  have ne : i ≠ S.length := by unfold Has at hi; omega
  have key : ∃ (ts : List Th) (a' n' : Int) (kd' : Option PV), 0 ≤ a' ∧ oks l q.2.1 ts ∧
      forL (.nm 6) [] (exss cl (.cons (.ex (.mth .append (.v 5) (.cons (.call g (.cons (.v 0) (.cons (.v 6) (.cons (.bin .sub (.v 2) (.c (.int 1))) .nil)))) .nil))) .nil)) (q.2.1.map fun b => .p (.str (sc b)))
        [some (.loc i), want, some (.p (.int (((l + 1 : Nat) : Int)))), some (.p (.int num)), some (.p (.str q.1)), some (.loc S.length), none, words'] (S ++ [Cell.lst [PyData.str q.1]]) =
      .nx [some (.loc i), want, some (.p (.int (((l + 1 : Nat) : Int)))), some (.p (.int num)), some (.p (.str q.1)), some (.loc S.length), kd', words'] ((List.set (S ++ [Cell.lst [PyData.str q.1]]) i (Cell.lst [PyData.int a', PyData.int n'])).set S.length (Cell.lst ([PyData.str q.1] ++ ts.map Th.e))) := by
    cases e : q.2.1 with
    | nil =>
      refine ⟨[], a, n, none, h0, trivial, ?_⟩
      rw [set_same (c := .lst [.int a, .int n]) (by rw [at_old hi]; exact h)]
      simp
    | cons x r =>
      rw [← e]
      exact grow_loop (ih (by rw [e]; exact List.cons_ne_nil _ _)) ne q.2.1 none _ [.str q.1] a n (by rw [at_old hi]; exact h) (by simp) (by simp; omega) h0
  obtain ⟨ts, a', n', kd', p1, p2, p3⟩ := key
  obtain ⟨t, g1, g2⟩ := hd_mk hq p2
  refine ⟨t, a', n', [.lst (.str q.1 :: ts.map Th.e)], p1, g1, ?_⟩
  simp [n1, n2, hsh', hc]
  simp at p3
  simp [p3, hi, g2]
theorem tl_var (h : S[i]? = some (.lst [.int a, .int n])) (h0 : 0 ≤ a) (hn : 0 ≤ num) : GoodT true l i S (tlG cl sh g nm nx l i want words' num "var" S) := by
  unfold tlG m_l_grown
  simp only [Sms.dr]
  have e := set_same h
  by_cases c : num / 16 % 9 = 0
  · refine ⟨.var (num / 144 % 100), a, n, [], h0, ⟨rfl, by omega, by omega⟩, ?_⟩
    simp [c, e, Th.e]
  · refine ⟨.var (num / 144 % 5), a, n, [], h0, ⟨rfl, by omega, by omega⟩, ?_⟩
    simp [c, e, Th.e]
theorem tl_name (hnm : SName (cl nm)) (h : S[i]? = some (.lst [.int a, .int n])) (h0 : 0 ≤ a) : GoodT true l i S (tlG cl sh g nm nx l i want words' num "name" S) := by
  unfold tlG m_l_grown
  simp only [Sms.dr]
  have e := set_same h
  unfold SName at hnm
  refine ⟨.nm (nmOf (num / 16)), a, n, [], h0, ⟨rfl, _, rfl⟩, ?_⟩
  simp [e, Th.e, hnm]
end
end Kp

set_option Elab.async false
set_option linter.all false
set_option maxRecDepth 100000
set_option maxHeartbeats 8000000
set_option autoImplicit false
/-! S3: a thing grown. -/
namespace Kp
open PySem PySem.Spec PyProof.Rows L2
section
variable {cl : Cl} {sh g nm nx l i : Nat} {want words' : Option PV} {b : Bool} {S : Sto} {a n num : Int}
def wK : List P := [.str "nat", .str "all", .str "same", .str "some", .str "nat", .str "all", .str "none", .str "same"]
def wT : List P := [.str "var", .str "app", .str "fun", .str "next", .str "var", .str "rec", .str "zero", .str "app", .str "like", .str "carry", .str "never", .str "pair", .str "first", .str "second", .str "name", .str "var"]
def wL : Bool → List P
  | false => [.str "nat", .str "none"]
  | true => [.str "var", .str "zero"]
theorem tl_k {w : P} (hsh : SShape (cl sh)) (hw : w ∈ wK) (ih : SGrown (cl g) l) (h : S[i]? = some (.lst [.int a, .int n])) (h0 : 0 ≤ a) : ∃ s, w = .str s ∧ GoodT false l i S (tlG cl sh g nm nx l i want words' num s S) := by
  unfold wK at hw
  simp only [List.mem_cons, List.not_mem_nil, or_false] at hw
  rcases hw with rfl | rfl | rfl | rfl | rfl | rfl | rfl | rfl
  · exact ⟨_, rfl, tl_hd hsh (q := ("nat", [], false)) (by simp [hdW]) (fun _ => ih) h h0⟩
  · exact ⟨_, rfl, tl_hd hsh (q := ("all", [false, false], false)) (by simp [hdW]) (fun _ => ih) h h0⟩
  · exact ⟨_, rfl, tl_hd hsh (q := ("same", [false, true, true], false)) (by simp [hdW]) (fun _ => ih) h h0⟩
  · exact ⟨_, rfl, tl_hd hsh (q := ("some", [false, false], false)) (by simp [hdW]) (fun _ => ih) h h0⟩
  · exact ⟨_, rfl, tl_hd hsh (q := ("nat", [], false)) (by simp [hdW]) (fun _ => ih) h h0⟩
  · exact ⟨_, rfl, tl_hd hsh (q := ("all", [false, false], false)) (by simp [hdW]) (fun _ => ih) h h0⟩
  · exact ⟨_, rfl, tl_hd hsh (q := ("none", [], false)) (by simp [hdW]) (fun _ => ih) h h0⟩
  · exact ⟨_, rfl, tl_hd hsh (q := ("same", [false, true, true], false)) (by simp [hdW]) (fun _ => ih) h h0⟩
theorem tl_t {w : P} (hsh : SShape (cl sh)) (hnm : SName (cl nm)) (hn : 0 ≤ num) (hw : w ∈ wT) (ih : SGrown (cl g) l) (h : S[i]? = some (.lst [.int a, .int n])) (h0 : 0 ≤ a) : ∃ s, w = .str s ∧ GoodT true l i S (tlG cl sh g nm nx l i want words' num s S) := by
  unfold wT at hw
  simp only [List.mem_cons, List.not_mem_nil, or_false] at hw
  rcases hw with rfl | rfl | rfl | rfl | rfl | rfl | rfl | rfl | rfl | rfl | rfl | rfl | rfl | rfl | rfl | rfl
  · exact ⟨_, rfl, tl_var h h0 hn⟩
  · exact ⟨_, rfl, tl_hd hsh (q := ("app", [true, true], true)) (by simp [hdW]) (fun _ => ih) h h0⟩
  · exact ⟨_, rfl, tl_hd hsh (q := ("fun", [false, true], true)) (by simp [hdW]) (fun _ => ih) h h0⟩
  · exact ⟨_, rfl, tl_hd hsh (q := ("next", [true], true)) (by simp [hdW]) (fun _ => ih) h h0⟩
  · exact ⟨_, rfl, tl_var h h0 hn⟩
  · exact ⟨_, rfl, tl_hd hsh (q := ("rec", [false, true, true, true], true)) (by simp [hdW]) (fun _ => ih) h h0⟩
  · exact ⟨_, rfl, tl_hd hsh (q := ("zero", [], true)) (by simp [hdW]) (fun _ => ih) h h0⟩
  · exact ⟨_, rfl, tl_hd hsh (q := ("app", [true, true], true)) (by simp [hdW]) (fun _ => ih) h h0⟩
  · exact ⟨_, rfl, tl_hd hsh (q := ("like", [false, true], true)) (by simp [hdW]) (fun _ => ih) h h0⟩
  · exact ⟨_, rfl, tl_hd hsh (q := ("carry", [false, true, true], true)) (by simp [hdW]) (fun _ => ih) h h0⟩
  · exact ⟨_, rfl, tl_hd hsh (q := ("never", [false, true], true)) (by simp [hdW]) (fun _ => ih) h h0⟩
  · exact ⟨_, rfl, tl_hd hsh (q := ("pair", [false, true, true], true)) (by simp [hdW]) (fun _ => ih) h h0⟩
  · exact ⟨_, rfl, tl_hd hsh (q := ("first", [true], true)) (by simp [hdW]) (fun _ => ih) h h0⟩
  · exact ⟨_, rfl, tl_hd hsh (q := ("second", [true], true)) (by simp [hdW]) (fun _ => ih) h h0⟩
  · exact ⟨_, rfl, tl_name hnm h h0⟩
  · exact ⟨_, rfl, tl_var h h0 hn⟩
theorem tl_l {w : P} (hsh : SShape (cl sh)) (hn : 0 ≤ num) (hw : w ∈ wL b) (h : S[i]? = some (.lst [.int a, .int n])) (h0 : 0 ≤ a) : ∃ s, w = .str s ∧ GoodT b l i S (tlG cl sh g nm nx l i want words' num s S) := by
  cases b <;> simp only [wL, List.mem_cons, List.not_mem_nil, or_false] at hw <;> rcases hw with rfl | rfl
  · exact ⟨_, rfl, tl_hd hsh (q := ("nat", [], false)) (by simp [hdW]) (fun e => absurd rfl e) h h0⟩
  · exact ⟨_, rfl, tl_hd hsh (q := ("none", [], false)) (by simp [hdW]) (fun e => absurd rfl e) h h0⟩
  · exact ⟨_, rfl, tl_var h h0 hn⟩
  · exact ⟨_, rfl, tl_hd hsh (q := ("zero", [], true)) (by simp [hdW]) (fun e => absurd rfl e) h h0⟩
def wOf (b leaf : Bool) : List P := match leaf, b with
  | true, b => wL b
  | false, false => wK
  | false, true => wT
theorem grow_head (hnx : SNext (cl nx)) (L : Int) (h : S[i]? = some (.lst [.int a, .int n])) (h0 : 0 ≤ a) : ∃ (w : P) (wd : Option PV) (c : Sto), w ∈ wOf b (decide (L ≤ 1) || decide (n - 1 < 0)) ∧
    exss cl ((m_l_grown sh g nm nx).tk 4) [some (.loc i), some (.p (.str (sc b))), some (.p (.int L)), none, none, none, none, none] S =
      .nx [some (.loc i), some (.p (.str (sc b))), some (.p (.int L)), some (.p (.int (a * 48271 % 2147483647 / 7))), some (.p w), none, none, wd] (S.set i (.lst [.int (a * 48271 % 2147483647), .int (n - 1)]) ++ c) := by
  have hi := has_of h
  have hx := hnx S i a n h
  unfold m_l_grown
  simp only [Sms.tk]
  generalize ha : a * 48271 % 2147483647 = a1 at *
  have p1 : 0 ≤ a1 / 7 := by omega
  cases b with
  | false =>
    by_cases c1 : L ≤ 1
    · obtain ⟨w, hw, e⟩ := ix_mem (xs := wL false) (k := a1 / 7 % 2) (by omega) (by simp [wL]; omega)
      refine ⟨w, some (.loc (S.length + 2)), [.lst [.str "nat", .str "all", .str "same", .str "some", .str "nat", .str "all", .str "none", .str "same"], .lst [.str "none", .str "zero"], .lst [.str "nat", .str "none"]], by simpa [c1, wOf] using hw, ?_⟩
      simp only [wL] at e
      simp [sc, hx, c1, hi, e]
    · by_cases c2 : n - 1 < 0
      · obtain ⟨w, hw, e⟩ := ix_mem (xs := wL false) (k := a1 / 7 % 2) (by omega) (by simp [wL]; omega)
        refine ⟨w, some (.loc (S.length + 2)), [.lst [.str "nat", .str "all", .str "same", .str "some", .str "nat", .str "all", .str "none", .str "same"], .lst [.str "none", .str "zero"], .lst [.str "nat", .str "none"]], by simpa [c1, c2, wOf] using hw, ?_⟩
        simp only [wL] at e
        simp [sc, hx, c1, c2, hi, e]
      · obtain ⟨w, hw, e⟩ := ix_mem (xs := wK) (k := a1 / 7 % 8) (by omega) (by simp [wK]; omega)
        refine ⟨w, some (.loc (S.length)), [.lst [.str "nat", .str "all", .str "same", .str "some", .str "nat", .str "all", .str "none", .str "same"]], by simpa [c1, c2, wOf] using hw, ?_⟩
        simp only [wK] at e
        simp [sc, hx, c1, c2, hi, e]
  | true =>
    by_cases c1 : L ≤ 1
    · obtain ⟨w, hw, e⟩ := ix_mem (xs := wL true) (k := a1 / 7 % 2) (by omega) (by simp [wL]; omega)
      refine ⟨w, some (.loc (S.length + 4)), [.lst [.str "var", .str "app", .str "fun", .str "next", .str "var", .str "rec", .str "zero", .str "app", .str "like", .str "carry", .str "never", .str "pair"], .lst [.str "first", .str "second", .str "name", .str "var"], .lst [.str "var", .str "app", .str "fun", .str "next", .str "var", .str "rec", .str "zero", .str "app", .str "like", .str "carry", .str "never", .str "pair", .str "first", .str "second", .str "name", .str "var"], .lst [.str "none", .str "zero"], .lst [.str "var", .str "zero"]], by simpa [c1, wOf] using hw, ?_⟩
      simp only [wL] at e
      simp [sc, hx, c1, hi, e]
    · by_cases c2 : n - 1 < 0
      · obtain ⟨w, hw, e⟩ := ix_mem (xs := wL true) (k := a1 / 7 % 2) (by omega) (by simp [wL]; omega)
        refine ⟨w, some (.loc (S.length + 4)), [.lst [.str "var", .str "app", .str "fun", .str "next", .str "var", .str "rec", .str "zero", .str "app", .str "like", .str "carry", .str "never", .str "pair"], .lst [.str "first", .str "second", .str "name", .str "var"], .lst [.str "var", .str "app", .str "fun", .str "next", .str "var", .str "rec", .str "zero", .str "app", .str "like", .str "carry", .str "never", .str "pair", .str "first", .str "second", .str "name", .str "var"], .lst [.str "none", .str "zero"], .lst [.str "var", .str "zero"]], by simpa [c1, c2, wOf] using hw, ?_⟩
        simp only [wL] at e
        simp [sc, hx, c1, c2, hi, e]
      · obtain ⟨w, hw, e⟩ := ix_mem (xs := wT) (k := a1 / 7 % 16) (by omega) (by simp [wT]; omega)
        refine ⟨w, some (.loc (S.length + 2)), [.lst [.str "var", .str "app", .str "fun", .str "next", .str "var", .str "rec", .str "zero", .str "app", .str "like", .str "carry", .str "never", .str "pair"], .lst [.str "first", .str "second", .str "name", .str "var"], .lst [.str "var", .str "app", .str "fun", .str "next", .str "var", .str "rec", .str "zero", .str "app", .str "like", .str "carry", .str "never", .str "pair", .str "first", .str "second", .str "name", .str "var"]], by simpa [c1, c2, wOf] using hw, ?_⟩
        simp only [wT] at e
        simp [sc, hx, c1, c2, hi, e]
theorem grown_ok (hsh : SShape (cl sh)) (hnm : SName (cl nm)) (hnx : SNext (cl nx)) (ih : l ≠ 0 → SGrown (cl g) l) : SGrown (runD cl 3 8 (m_l_grown sh g nm nx)) (l + 1) := by
  intro b S i a n h h0
  have hi := has_of h
  obtain ⟨w, wd, c, hw, e⟩ := grow_head (sh := sh) (g := g) (nm := nm) (b := b) hnx (((l + 1 : Nat) : Int)) h h0
  have p1 : 0 ≤ a * 48271 % 2147483647 / 7 := by omega
  have p2 : 0 ≤ a * 48271 % 2147483647 := by omega
  have h1 : (List.set S i (Cell.lst [.int (a * 48271 % 2147483647), .int (n - 1)]) ++ c)[i]? = some (.lst [.int (a * 48271 % 2147483647), .int (n - 1)]) := by
    rw [at_old (has_set hi), set_at hi]
  have hg : ∃ s, w = .str s ∧ GoodT b l i (List.set S i (Cell.lst [.int (a * 48271 % 2147483647), .int (n - 1)]) ++ c) (tlG cl sh g nm nx l i (some (.p (.str (sc b)))) wd (a * 48271 % 2147483647 / 7) s (List.set S i (Cell.lst [.int (a * 48271 % 2147483647), .int (n - 1)]) ++ c)) := by
    cases d : (decide ((((l + 1 : Nat) : Int)) ≤ 1) || decide (n - 1 < 0)) with
    | true =>
      rw [d] at hw
      exact tl_l hsh p1 hw h1 p2
    | false =>
      rw [d] at hw
      have l0 : l ≠ 0 := by
        intro z
        subst z
        simp at d
      cases b with
      | false => exact tl_k hsh hw (ih l0) h1 p2
      | true => exact tl_t hsh hnm p1 hw (ih l0) h1 p2
  obtain ⟨s, rfl, t, a', n', c', q1, q2, q3⟩ := hg
  refine ⟨t, a', n', q1, q2, ?_⟩
  refine Eq.trans (if_pos rfl) ?_
  show endV S.length (exss cl (m_l_grown sh g nm nx) [some (.loc i), some (.p (.str (sc b))), some (.p (.int (((l + 1 : Nat) : Int)))), none, none, none, none, none] S) = _
  rw [exss_split 4, e, seq_nx]
  have q4 : exss cl ((m_l_grown sh g nm nx).dr 4) [some (.loc i), some (.p (.str (sc b))), some (.p (.int (((l + 1 : Nat) : Int)))), some (.p (.int (a * 48271 % 2147483647 / 7))), some (.p (.str s)), none, none, wd] (List.set S i (Cell.lst [.int (a * 48271 % 2147483647), .int (n - 1)]) ++ c) = _ := q3
  rw [q4]
  simp [hi]
end
end Kp

set_option Elab.async false
set_option linter.all false
set_option maxRecDepth 100000
set_option maxHeartbeats 8000000
set_option autoImplicit false
/-! S4: the law's own reading of a thing. -/
namespace Kp
open PySem PySem.Spec PyProof.Rows L2
@[simp] theorem cs0 : (Str.ofString "").cps.toList = [] := by decide +kernel
@[simp] theorem cs1 : (Str.ofString "t").cps.toList = [116] := by decide +kernel
@[simp] theorem cs2 : (Str.ofString "n").cps.toList = [110] := by decide +kernel
@[simp] theorem cs3 : (Str.ofString "w").cps.toList = [119] := by decide +kernel
@[simp] theorem cs4 : (Str.ofString "kk").cps.toList = [107, 107] := by decide +kernel
@[simp] theorem cs5 : (Str.ofString "kt").cps.toList = [107, 116] := by decide +kernel
@[simp] theorem cs6 : (Str.ofString "tt").cps.toList = [116, 116] := by decide +kernel
@[simp] theorem cs7 : (Str.ofString "ktt").cps.toList = [107, 116, 116] := by decide +kernel
@[simp] theorem cs8 : (Str.ofString "kttt").cps.toList = [107, 116, 116, 116] := by decide +kernel
@[simp] theorem ls0 : "".length = 0 := by decide +kernel
@[simp] theorem ls1 : "t".length = 1 := by decide +kernel
@[simp] theorem ls2 : "n".length = 1 := by decide +kernel
@[simp] theorem ls3 : "w".length = 1 := by decide +kernel
@[simp] theorem ls4 : "kk".length = 2 := by decide +kernel
@[simp] theorem ls5 : "kt".length = 2 := by decide +kernel
@[simp] theorem ls6 : "tt".length = 2 := by decide +kernel
@[simp] theorem ls7 : "ktt".length = 3 := by decide +kernel
@[simp] theorem ls8 : "kttt".length = 4 := by decide +kernel
@[simp] theorem len_1 {c : Nat} : (⟨#[c]⟩ : Str).length = 1 := rfl
@[simp] theorem in_kt {c : Nat} : inS ⟨#[c]⟩ "kt" = (decide (c = 107) || decide (c = 116)) := by
  unfold inS
  rw [cs5]
  simp
theorem rg1 : List.range 1 = [0] := rfl
theorem rg2 : List.range 2 = [0, 1] := rfl
theorem rg3 : List.range 3 = [0, 1, 2] := rfl
theorem rg4 : List.range 4 = [0, 1, 2, 3] := rfl
def Th.sh : Th → Str
  | .var _ => "n" | .nm _ => "w" | .n0 _ => ""
  | .n1 _ _ => "t"
  | .n2 .all _ _ => "kk" | .n2 .some _ _ => "kk" | .n2 .app _ _ => "tt" | .n2 _ _ _ => "kt"
  | .n3 _ _ _ _ => "ktt"
  | .rc _ _ _ _ => "kttt"
section
variable {n : Int} {s : Str} {u0 : U0} {u1 : U1} {u2 : U2} {u3 : U3} {a b c d : Th}
@[simp] theorem sh_0 : (.var n : Th).sh = "n" := rfl
@[simp] theorem sh_1 : (.nm s : Th).sh = "w" := rfl
@[simp] theorem sh_2 : (.n0 u0 : Th).sh = "" := rfl
@[simp] theorem sh_3 : (.n1 u1 a : Th).sh = "t" := rfl
@[simp] theorem sh_4 : (.n2 .all a b : Th).sh = "kk" := rfl
@[simp] theorem sh_5 : (.n2 .some a b : Th).sh = "kk" := rfl
@[simp] theorem sh_6 : (.n2 .fun' a b : Th).sh = "kt" := rfl
@[simp] theorem sh_7 : (.n2 .app a b : Th).sh = "tt" := rfl
@[simp] theorem sh_8 : (.n2 .like a b : Th).sh = "kt" := rfl
@[simp] theorem sh_9 : (.n2 .never a b : Th).sh = "kt" := rfl
@[simp] theorem sh_10 : (.n3 u3 a b c : Th).sh = "ktt" := rfl
@[simp] theorem sh_11 : (.rc a b c d : Th).sh = "kttt" := rfl
end
theorem shape_t {c : Cf} (h : SShape c) (t : Th) (S : Sto) : c [.p (.str t.w)] S = .ok (.p (.str t.sh)) S := by
  have h' := h S (t.w, t.sh)
  apply h'
  cases t with
  | n0 w => cases w <;> simp [words]
  | n1 w _ => cases w <;> simp [words]
  | n2 w _ _ => cases w <;> simp [words]
  | n3 w _ _ _ => cases w <;> simp [words]
  | _ => simp [words]
section
variable {cl : Cl} {k : Nat}
theorem lkids_ok (h : SShape (cl k)) : SKids (runD cl 1 3 (m_l_kids k)) := by
  intro t S
  have hs := fun S => shape_t h t S
  unfold m_l_kids
  cases t with
  | n0 w => cases w <;> (simp at hs; simp [runD, hs, rg1, rg2, rg3, rg4])
  | n1 w a => cases w <;> (simp at hs; simp [runD, hs, rg1, rg2, rg3, rg4])
  | n2 w a b => cases w <;> (simp at hs; simp [runD, hs, rg1, rg2, rg3, rg4])
  | n3 w a b c => cases w <;> (simp at hs; simp [runD, hs, rg1, rg2, rg3, rg4])
  | _ => simp at hs; simp [runD, hs, rg1, rg2, rg3, rg4]
theorem lbinds_ok (h0 : SKids (cl k)) : SBinds (runD cl 1 1 (m_l_binds k)) := by
  intro t S
  unfold m_l_binds
  unfold SKids at h0
  cases t with
  | n1 w a => cases w <;> simp [runD, h0]
  | n0 w => cases w <;> simp [runD, h0]
  | n2 w a b => cases w <;> simp [runD, h0]
  | n3 w a b c => cases w <;> simp [runD, h0]
  | _ => simp [runD, h0]
end
end Kp

set_option Elab.async false
set_option linter.all false
set_option maxRecDepth 100000
set_option maxHeartbeats 8000000
set_option autoImplicit false
/-! S5: what is free in a thing. -/
namespace Kp
open PySem PySem.Spec PyProof.Rows L2
@[simp] def Th.dp : Th → Nat
  | .var _ => 1 | .nm _ => 1 | .n0 _ => 1
  | .n1 _ a => a.dp + 1
  | .n2 _ a b => max a.dp b.dp + 1
  | .n3 _ a b c => max (max a.dp b.dp) c.dp + 1
  | .rc a b c d => max (max a.dp b.dp) (max c.dp d.dp) + 1
/-- the leaves' number -/
@[simp] def Th.nv : Th → Nat
  | .var _ => 1 | .nm _ => 1 | .n0 _ => 1
  | .n1 _ a => a.nv
  | .n2 _ a b => a.nv + b.nv
  | .n3 _ a b c => a.nv + b.nv + c.nv
  | .rc a b c d => a.nv + b.nv + c.nv + d.nv
/-- what is free, in the order of the text -/
@[simp] def Th.fr : Th → Int → List Int
  | .var n, o => if o ≤ n then [n - o] else []
  | .nm _, _ => [] | .n0 _, _ => []
  | .n1 _ a, o => a.fr o
  | .n2 .all a b, o => a.fr o ++ b.fr (o + 1)
  | .n2 .some a b, o => a.fr o ++ b.fr (o + 1)
  | .n2 .fun' a b, o => a.fr o ++ b.fr (o + 1)
  | .n2 _ a b, o => a.fr o ++ b.fr o
  | .n3 .carry a b c, o => a.fr (o + 1) ++ b.fr o ++ c.fr o
  | .n3 _ a b c, o => a.fr o ++ b.fr o ++ c.fr o
  | .rc a b c d, o => a.fr (o + 1) ++ b.fr o ++ c.fr o ++ d.fr o
theorem fr_len : ∀ (t : Th) (o : Int), (t.fr o).length ≤ t.nv
  | .var n, o => by simp only [Th.fr, Th.nv]; split <;> simp
  | .nm _, _ => by simp
  | .n0 _, _ => by simp
  | .n1 _ a, o => by simp only [Th.fr, Th.nv]; exact fr_len a o
  | .n2 w a b, o => by
    have := fr_len a o; have := fr_len b o; have := fr_len b (o + 1)
    cases w <;> simp only [Th.fr, Th.nv, List.length_append] <;> omega
  | .n3 w a b c, o => by
    have := fr_len a o; have := fr_len a (o + 1); have := fr_len b o; have := fr_len c o
    cases w <;> simp only [Th.fr, Th.nv, List.length_append] <;> omega
  | .rc a b c d, o => by
    have := fr_len a (o + 1); have := fr_len b o; have := fr_len c o; have := fr_len d o
    simp only [Th.fr, Th.nv, List.length_append]; omega
def SLFree (c : Cf) (d : Nat) : Prop := ∀ (t : Th) (o : Int) (S : Sto), t.dp ≤ d → t.nv ≤ 1000000 → c [.p t.e, .p (.int o)] S = .ok (.loc S.length) (S ++ [.lst ((t.fr o).map .int)])
section
variable {cl : Cl} {kf kb kk d : Nat}
theorem lfree_ok (hb : SBinds (cl kb)) (hk : SKids (cl kk)) (ih : SLFree (cl kf) d) : SLFree (runD cl 2 6 (m_l_free kf kb kk)) (d + 1) := by
  intro t o S hd hv
  unfold m_l_free
  unfold SKids at hk
  unfold SBinds at hb
  cases t with
  | var n => by_cases c : o ≤ n <;> simp [runD, c]
  | nm s => simp [runD, hk, hb]
  | n0 w => cases w <;> simp [runD, hk, hb]
  | n1 w a =>
    simp only [Th.dp, Th.nv] at hd hv
    have ha := fun o S => ih a o S (by omega) (by omega)
    have l1 : ∀ o, (a.fr o).length ≤ 1000000 := fun o => by have := fr_len a o; omega
    cases w <;> simp [runD, hk, hb, ha, rg1, for_cons0, l1]
  | n2 w a b =>
    simp only [Th.dp, Th.nv] at hd hv
    have ha := fun o S => ih a o S (by omega) (by omega)
    have hb' := fun o S => ih b o S (by omega) (by omega)
    have l1 : ∀ o, (a.fr o).length ≤ 1000000 := fun o => by have := fr_len a o; omega
    have l2 : ∀ o p, (a.fr o).length + (b.fr p).length ≤ 1000000 := fun o p => by have := fr_len a o; have := fr_len b p; omega
    cases w <;> simp [runD, hk, hb, ha, hb', rg2, for_cons0, l1, l2]
  | n3 w a b c =>
    simp only [Th.dp, Th.nv] at hd hv
    have ha := fun o S => ih a o S (by omega) (by omega)
    have hb' := fun o S => ih b o S (by omega) (by omega)
    have hc := fun o S => ih c o S (by omega) (by omega)
    have l1 : ∀ o, (a.fr o).length ≤ 1000000 := fun o => by have := fr_len a o; omega
    have l2 : ∀ o p, (a.fr o).length + (b.fr p).length ≤ 1000000 := fun o p => by have := fr_len a o; have := fr_len b p; omega
    have l3 : ∀ o p q, (a.fr o).length + ((b.fr p).length + (c.fr q).length) ≤ 1000000 := fun o p q => by have := fr_len a o; have := fr_len b p; have := fr_len c q; omega
    have l3' : ∀ o p q, (a.fr o).length + (b.fr p).length + (c.fr q).length ≤ 1000000 := fun o p q => by have := l3 o p q; omega
    cases w <;> simp [runD, hk, hb, ha, hb', hc, rg3, for_cons0, l1, l2, l3, l3']
  | rc a b c e =>
    simp only [Th.dp, Th.nv] at hd hv
    have ha := fun o S => ih a o S (by omega) (by omega)
    have hb' := fun o S => ih b o S (by omega) (by omega)
    have hc := fun o S => ih c o S (by omega) (by omega)
    have he := fun o S => ih e o S (by omega) (by omega)
    have l1 : ∀ o, (a.fr o).length ≤ 1000000 := fun o => by have := fr_len a o; omega
    have l2 : ∀ o p, (a.fr o).length + (b.fr p).length ≤ 1000000 := fun o p => by have := fr_len a o; have := fr_len b p; omega
    have l3 : ∀ o p q, (a.fr o).length + ((b.fr p).length + (c.fr q).length) ≤ 1000000 := fun o p q => by have := fr_len a o; have := fr_len b p; have := fr_len c q; omega
    have l3' : ∀ o p q, (a.fr o).length + (b.fr p).length + (c.fr q).length ≤ 1000000 := fun o p q => by have := l3 o p q; omega
    have l4 : ∀ o p q r, (a.fr o).length + ((b.fr p).length + ((c.fr q).length + (e.fr r).length)) ≤ 1000000 := fun o p q r => by have := fr_len a o; have := fr_len b p; have := fr_len c q; have := fr_len e r; omega
    have l4' : ∀ o p q r, (a.fr o).length + ((b.fr p).length + (c.fr q).length) + (e.fr r).length ≤ 1000000 := fun o p q r => by have := l4 o p q r; omega
    simp [runD, hk, hb, ha, hb', hc, he, rg4, for_cons0, l1, l2, l3, l3', l4, l4']
end
end Kp

set_option Elab.async false
set_option linter.all false
set_option maxRecDepth 100000
set_option maxHeartbeats 8000000
set_option autoImplicit false
/-! S6: noted, free_in. -/
namespace Kp
open PySem PySem.Spec PyProof.Rows L2
def encK (kv : List (Int × Int)) : List (Key × P) := kv.map fun p => (.inl p.1, .int p.2)
def cnt : List (Int × Int) → Int → Int
  | [], _ => 0
  | (a, c) :: r, k => if a = k then c else cnt r k
def put1 (kv : List (Int × Int)) (k v : Int) : List (Int × Int) := if (kv.any fun p => decide (p.1 = k)) = true then kv.map (fun p => if p.1 = k then (p.1, v) else p) else kv ++ [(k, v)]
def bump (kv : List (Int × Int)) (k : Int) : List (Int × Int) := put1 kv k (cnt kv k + 1)
theorem inl_dec {a k : Int} : decide ((Sum.inl a : Key) = Sum.inl k) = decide (a = k) := by
  by_cases h : a = k
  · subst h; simp
  · have : (Sum.inl a : Key) ≠ Sum.inl k := fun e => h (Sum.inl.inj e)
    simp [h, this]
theorem luK_enc : ∀ {kv : List (Int × Int)} {k : Int}, (luK (encK kv) (.inl k)).getD (.int 0) = .int (cnt kv k)
  | [], k => rfl
  | (a, c) :: r, k => by
    show (luK ((.inl a, .int c) :: encK r) (.inl k)).getD (.int 0) = _
    rw [luK_cons]
    by_cases h : a = k
    · subst h; simp [cnt]
    · have : (Sum.inl a : Key) ≠ Sum.inl k := fun e => h (Sum.inl.inj e)
      rw [if_neg this, luK_enc]; simp [cnt, h]
theorem any_enc : ∀ {kv : List (Int × Int)} {k : Int}, ((encK kv).any fun kv => decide (kv.1 = Sum.inl k)) = kv.any fun p => decide (p.1 = k)
  | [], k => rfl
  | (a, c) :: r, k => by
    show (decide ((Sum.inl a : Key) = Sum.inl k) || (encK r).any fun kv => decide (kv.1 = Sum.inl k)) = (decide (a = k) || r.any fun p => decide (p.1 = k))
    rw [any_enc, inl_dec]
theorem map_enc : ∀ {kv : List (Int × Int)} {k v : Int}, ((encK kv).map fun kv => if kv.1 = Sum.inl k then (kv.1, PyData.int v) else kv) = encK (kv.map fun p => if p.1 = k then (p.1, v) else p)
  | [], k, v => rfl
  | (a, c) :: r, k, v => by
    show (if (Sum.inl a : Key) = Sum.inl k then (Sum.inl a, PyData.int v) else (Sum.inl a, PyData.int c)) :: ((encK r).map fun kv => if kv.1 = Sum.inl k then (kv.1, PyData.int v) else kv) = encK ((if a = k then (a, v) else (a, c)) :: r.map fun p => if p.1 = k then (p.1, v) else p)
    rw [map_enc]
    by_cases h : a = k
    · subst h; simp [encK]
    · have : (Sum.inl a : Key) ≠ Sum.inl k := fun e => h (Sum.inl.inj e)
      simp [encK, h]
theorem puK_enc {kv : List (Int × Int)} {k v : Int} : puK (encK kv) (.inl k) (.int v) = encK (put1 kv k v) := by
  unfold puK put1
  rw [any_enc]
  split
  · exact map_enc
  · simp [encK]
theorem bump_len {kv : List (Int × Int)} {k : Int} : (bump kv k).length ≤ kv.length + 1 := by
  unfold bump put1
  split <;> simp
theorem bumps_len : ∀ {l : List Int} {kv : List (Int × Int)}, (l.foldl bump kv).length ≤ kv.length + l.length
  | [], kv => by simp
  | k :: l, kv => by
    have h1 := bump_len (kv := kv) (k := k)
    have h2 := bumps_len (l := l) (kv := bump kv k)
    simp only [List.foldl_cons, List.length_cons]
    omega
def SNoted (c : Cf) (d : Nat) : Prop := ∀ (t : Th) (S : Sto) (i : Nat) (kv : List (Int × Int)) (o : Int), t.dp ≤ d → S[i]? = some (.dct (encK kv)) → kv.length + t.nv < 1000000 →
  c [.p t.e, .p (.int o), .loc i] S = .ok (.p .none) (S.set i (.dct (encK ((t.fr o).foldl bump kv))))
/-- the kids with their binds -/
def Th.kb (t : Th) : List (Th × Nat) := t.kids.zip t.binds
def frs' (ks : List (Th × Nat)) (o : Int) : List Int := ks.flatMap fun q => q.1.fr (o + q.2)
theorem fr_kb (t : Th) (o : Int) (h : ∀ n, t ≠ .var n) : t.fr o = frs' t.kb o := by
  cases t with
  | var n => exact absurd rfl (h n)
  | nm s => rfl
  | n0 w => rfl
  | n1 w a => simp [Th.kb, frs']
  | n2 w a b => cases w <;> simp [Th.kb, frs']
  | n3 w a b c => cases w <;> simp [Th.kb, frs']
  | rc a b c d => simp [Th.kb, frs']
theorem kb_len (t : Th) : t.kids.length = t.binds.length := by
  cases t with
  | n2 w a b => cases w <;> rfl
  | n3 w a b c => cases w <;> rfl
  | _ => rfl
theorem kb_dp (t : Th) {d : Nat} (h : t.dp ≤ d + 1) : ∀ q ∈ t.kb, q.1.dp ≤ d := by
  cases t with
  | n1 w a => simp [Th.kb] at *; omega
  | n2 w a b => simp only [Th.dp] at h; cases w <;> simp [Th.kb] <;> omega
  | n3 w a b c => simp only [Th.dp] at h; cases w <;> simp [Th.kb] <;> omega
  | rc a b c d => simp only [Th.dp] at h; simp [Th.kb]; omega
  | _ => simp [Th.kb]
def nvs (ks : List (Th × Nat)) : Nat := (ks.map fun q => q.1.nv).sum
theorem kb_nv (t : Th) : nvs t.kb ≤ t.nv := by
  cases t with
  | n2 w a b => cases w <;> simp [Th.kb, nvs]
  | n3 w a b c => cases w <;> simp [Th.kb, nvs] <;> omega
  | rc a b c d => simp [Th.kb, nvs]; omega
  | _ => simp [Th.kb, nvs]
theorem kb_zip (t : Th) : ((t.kids.map Th.e).zip (t.binds.map fun (n : Nat) => PyData.int (n : Int))).map (fun q => PV.p (.tuple [q.1, q.2])) = t.kb.map fun q => PV.p (.tuple [q.1.e, .int (q.2 : Int)]) := by
  unfold Th.kb
  rw [List.zip_map, List.map_map]
  rfl
section
variable {cl : Cl} {kf kb kk d : Nat}
theorem note_loop {i k1 k2 : Nat} {th : Option PV} {o : Int} {xs ys : List P} (ih : SNoted (cl kf) d) (n1 : i ≠ k1) (n2 : i ≠ k2) (hx : ∀ x ∈ xs, pdB x x = true) (hy : ∀ x ∈ ys, pdB x x = true) :
    ∀ (ks : List (Th × Nat)) (kd bd : Option PV) (S : Sto) (kv : List (Int × Int)), (∀ q ∈ ks, q.1.dp ≤ d) → S[i]? = some (.dct (encK kv)) → S[k1]? = some (.lst xs) → S[k2]? = some (.lst ys) → kv.length + nvs ks < 1000000 →
    ∃ kd' bd', forL (.tp [3, 4]) [(k1, xs), (k2, ys)] (exss cl (.cons (.ex (.call kf (.cons (.v 3) (.cons (.bin .add (.v 1) (.v 4)) (.cons (.v 2) .nil))))) .nil)) (ks.map fun q => PV.p (.tuple [q.1.e, .int (q.2 : Int)]))
      [th, some (.p (.int o)), some (.loc i), kd, bd] S = .nx [th, some (.p (.int o)), some (.loc i), kd', bd'] (S.set i (.dct (encK ((frs' ks o).foldl bump kv))))
  | [], kd, bd, S, kv, _, h1, h2, h3, _ => by
    refine ⟨kd, bd, ?_⟩
    rw [List.map_nil, for_nil (by simp [h2, h3, wtC_ hx, wtC_ hy])]
    simp [frs', set_same h1]
  | q :: ks, kd, bd, S, kv, hd, h1, h2, h3, hl => by
    have hl' : kv.length + (q.1.nv + nvs ks) < 1000000 := by simpa [nvs] using hl
    have e := ih q.1 S i kv (o + q.2) (hd q List.mem_cons_self) h1 (by omega)
    have bl := bumps_len (l := q.1.fr (o + q.2)) (kv := kv)
    have fl := fr_len q.1 (o + q.2)
    obtain ⟨kd', bd', r⟩ := note_loop ih n1 n2 hx hy ks (some (.p q.1.e)) (some (.p (.int (q.2 : Int)))) (S.set i (.dct (encK ((q.1.fr (o + q.2)).foldl bump kv)))) ((q.1.fr (o + q.2)).foldl bump kv)
      (fun x hx => hd x (List.mem_cons_of_mem _ hx)) (set_at (has_of h1)) (by rw [List.getElem?_set_ne n1]; exact h2) (by rw [List.getElem?_set_ne n2]; exact h3) (by omega)
    refine ⟨kd', bd', ?_⟩
    rw [List.map_cons, for_cons (by simp [h2, h3, wtC_ hx, wtC_ hy])]
    simp [e]
    simp at r
    rw [r]
    simp [frs', List.foldl_append]
theorem noted_ok (hb : SBinds (cl kb)) (hk : SKids (cl kk)) (ih : SNoted (cl kf) d) : SNoted (runD cl 3 5 (m_noted kk kb kf)) (d + 1) := by
  intro t S i kv o hd h hl
  have hi := has_of h
  have hk' := fun S => hk t S
  have hb' := fun S => hb t S
  unfold m_noted
  by_cases hv : ∃ n, t = .var n
  · obtain ⟨n, rfl⟩ := hv
    simp at hk' hb'
    by_cases c : o ≤ n
    · have e := luK_enc (kv := kv) (k := n - o)
      have hl2 : (encK kv).length < 1000000 := by unfold encK; rw [List.length_map]; omega
      have e2 := puK_enc (kv := kv) (k := n - o) (v := cnt kv (n - o) + 1)
      simp [runD, c, h, hi, e, hl2, e2, hk', hb', set_at, for_nil, bump]
    · simp [runD, c, hk', hb', for_nil, set_same h]
  · have hv' : ∀ n, t ≠ .var n := fun n e => hv ⟨n, e⟩
    have nw : t.w ≠ "var" := by
      cases t with
      | var n => exact absurd rfl (hv' n)
      | n0 w => cases w <;> simp
      | n1 w a => cases w <;> simp
      | n2 w a b => cases w <;> simp
      | n3 w a b c => cases w <;> simp
      | _ => simp
    have ne1 : i ≠ S.length := by unfold Has at hi; omega
    have ne2 : i ≠ S.length + 1 := by unfold Has at hi; omega
    have kn := kb_nv t
    obtain ⟨kd', bd', r⟩ := note_loop (i := i) (k1 := S.length) (k2 := S.length + 1) (th := some (.p t.e)) (o := o) (xs := t.kids.map Th.e) (ys := t.binds.map fun (n : Nat) => PyData.int (n : Int)) ih ne1 ne2
      (fun x hx => by obtain ⟨y, _, rfl⟩ := List.mem_map.mp hx; exact pd_e y) (fun x hx => by obtain ⟨y, _, rfl⟩ := List.mem_map.mp hx; exact pd_i)
      t.kb none none (S ++ [.lst (t.kids.map Th.e), .lst (t.binds.map fun (n : Nat) => PyData.int (n : Int))]) kv (kb_dp t hd) (by rw [at_old hi]; exact h) (by simp) (by simp) (by omega)
    have z := kb_zip t
    simp [runD, nw, hk', hb', kb_len t]
    try simp at r
    try simp at z
    rw [z, r]
    simp [hi, fr_kb t o hv']
theorem keys_enc {kv : List (Int × Int)} : (encK kv).map (fun kv => pKey kv.1) = (kv.map (·.1)).map PyData.int := by
  unfold encK
  rw [List.map_map, List.map_map]
  rfl
def SFreeIn (c : Cf) (d : Nat) : Prop := ∀ (t : Th) (S : Sto), t.dp ≤ d → t.nv < 1000000 → c [.p t.e] S = .ok (.loc S.length) (S ++ [.lst ((sortI (((t.fr 0).foldl bump []).map (·.1))).map .int)])
theorem freein_ok (ih : SNoted (cl kf) d) : SFreeIn (runD cl 1 2 (m_free_in kf)) d := by
  intro t S hd hl
  have e := ih t (S ++ [.dct []]) S.length [] 0 hd (by simp [encK]) (by simpa using hl)
  unfold m_free_in
  have k := keys_enc (kv := (t.fr 0).foldl bump [])
  simp [runD, e, k, -List.map_map]
end
end Kp

set_option Elab.async false
set_option linter.all false
set_option maxRecDepth 100000
set_option maxHeartbeats 8000000
set_option autoImplicit false
/-! S9: sizes, lifting, putting in. -/
namespace Kp
open PySem PySem.Spec PyProof.Rows L2
@[simp] def Th.sz : Th → Nat
  | .var _ => 1 | .nm _ => 1 | .n0 _ => 1
  | .n1 _ a => a.sz + 1
  | .n2 _ a b => a.sz + b.sz + 1
  | .n3 _ a b c => a.sz + b.sz + c.sz + 1
  | .rc a b c d => a.sz + b.sz + c.sz + d.sz + 1
def mx (a b : Int) : Int := if b > a then b else a
@[simp] def Th.gs : Th → Int
  | .var n => n | .nm _ => -1 | .n0 _ => -1
  | .n1 _ a => a.gs
  | .n2 _ a b => mx a.gs b.gs
  | .n3 _ a b c => mx (mx a.gs b.gs) c.gs
  | .rc a b c d => mx (mx (mx a.gs b.gs) c.gs) d.gs
def U2.b : U2 → Int
  | .all => 1 | .some => 1 | .fun' => 1 | _ => 0
def U3.b : U3 → Int
  | .carry => 1 | _ => 0
@[simp] def Th.mv (by' : Int) : Int → Th → Th
  | low, .var n => if low ≤ n then .var (n + by') else .var n
  | _, .nm s => .nm s
  | _, .n0 w => .n0 w
  | low, .n1 w a => .n1 w (a.mv by' low)
  | low, .n2 w a b => .n2 w (a.mv by' low) (b.mv by' (low + w.b))
  | low, .n3 w a b c => .n3 w (a.mv by' (low + w.b)) (b.mv by' low) (c.mv by' low)
  | low, .rc a b c d => .rc (a.mv by' (low + 1)) (b.mv by' low) (c.mv by' low) (d.mv by' low)
@[simp] def Th.pl (o : Th) (at' : Int) : Int → Th → Th
  | over, .var n => if n = at' + over then o.mv over 0 else if at' + over < n then .var (n - 1) else .var n
  | _, .nm s => .nm s
  | _, .n0 w => .n0 w
  | over, .n1 w a => .n1 w (o.pl at' over a)
  | over, .n2 w a b => .n2 w (o.pl at' over a) (o.pl at' (over + w.b) b)
  | over, .n3 w a b c => .n3 w (o.pl at' (over + w.b) a) (o.pl at' over b) (o.pl at' over c)
  | over, .rc a b c d => .rc (o.pl at' (over + 1) a) (o.pl at' over b) (o.pl at' over c) (o.pl at' over d)
/-- kids put anew -/
theorem e_kb {t t' : Th} (f : Th → Int → Th) (h0 : t.kids = [] → t' = t) (h : t.kids ≠ [] → t'.e = .tuple (.str t.w :: t.kb.map fun q => (f q.1 q.2).e)) : t'.e = if t.kids = [] then t.e else .tuple (.str t.w :: t.kb.map fun q => (f q.1 q.2).e) := by
  split
  · rename_i c; rw [h0 c]
  · rename_i c; exact h c
theorem mv_kb (t : Th) (by' low : Int) (h : ∀ n, t ≠ .var n) : (t.mv by' low).e = if t.kids = [] then t.e else .tuple (.str t.w :: t.kb.map fun q => (q.1.mv by' (low + q.2)).e) := by
  cases t with
  | var n => exact absurd rfl (h n)
  | nm s => rfl
  | n0 w => rfl
  | n1 w a => simp [Th.e, Th.kb]
  | n2 w a b => cases w <;> simp [Th.e, Th.kb, U2.b]
  | n3 w a b c => cases w <;> simp [Th.e, Th.kb, U3.b]
  | rc a b c d => simp [Th.e, Th.kb]
theorem pl_kb (t o : Th) (at' over : Int) (h : ∀ n, t ≠ .var n) : (o.pl at' over t).e = if t.kids = [] then t.e else .tuple (.str t.w :: t.kb.map fun q => (o.pl at' (over + q.2) q.1).e) := by
  cases t with
  | var n => exact absurd rfl (h n)
  | nm s => rfl
  | n0 w => rfl
  | n1 w a => simp [Th.e, Th.kb]
  | n2 w a b => cases w <;> simp [Th.e, Th.kb, U2.b]
  | n3 w a b c => cases w <;> simp [Th.e, Th.kb, U3.b]
  | rc a b c d => simp [Th.e, Th.kb]
theorem w_var (t : Th) (h : ∀ n, t ≠ .var n) : t.w ≠ "var" := by
  cases t with
  | var n => exact absurd rfl (h n)
  | n0 w => cases w <;> simp
  | n1 w a => cases w <;> simp
  | n2 w a b => cases w <;> simp
  | n3 w a b c => cases w <;> simp
  | _ => simp
theorem kids_dp (t : Th) {d : Nat} (h : t.dp ≤ d + 1) : ∀ k ∈ t.kids, k.dp ≤ d := by
  cases t with
  | n1 w a => simp at *; omega
  | n2 w a b => simp only [Th.dp] at h; simp; omega
  | n3 w a b c => simp only [Th.dp] at h; simp; omega
  | rc a b c e => simp only [Th.dp] at h; simp; omega
  | _ => simp
theorem kb_nil (t : Th) : t.kids = [] ↔ t.kb = [] := by
  cases t with
  | n2 w a b => cases w <;> simp [Th.kb]
  | n3 w a b c => cases w <;> simp [Th.kb]
  | _ => simp [Th.kb]
theorem kb_few (t : Th) : t.kb.length ≤ 4 := by
  cases t with
  | n2 w a b => cases w <;> simp [Th.kb]
  | n3 w a b c => cases w <;> simp [Th.kb]
  | _ => simp [Th.kb]
def SPlain (c : Cf) : Prop := ∀ (t : Th) (S : Sto) (D : Nat) (ks : List P), S[D]? = some (.lst ks) → ks.length ≤ 4 → c [.p t.e, .loc D] S = .ok (.p (if ks = [] then t.e else .tuple (.str t.w :: ks))) S
def SSize (c : Cf) (d : Nat) : Prop := ∀ (t : Th) (S : Sto), t.dp ≤ d → c [.p t.e] S = .ok (.p (.int (t.sz : Int))) S
def SDepth (c : Cf) (d : Nat) : Prop := ∀ (t : Th) (S : Sto), t.dp ≤ d → c [.p t.e] S = .ok (.p (.int (t.dp : Int))) S
def SGreat (c : Cf) (d : Nat) : Prop := ∀ (t : Th) (S : Sto), t.dp ≤ d → c [.p t.e] S = .ok (.p (.int t.gs)) S
def SMoved (c : Cf) (d : Nat) : Prop := ∀ (t : Th) (by' low : Int) (S : Sto), t.dp ≤ d → c [.p t.e, .p (.int by'), .p (.int low)] S = .ok (.p (t.mv by' low).e) S
def SPlaced (c : Cf) (d : Nat) (o : Th) : Prop := ∀ (t : Th) (at' over : Int) (S : Sto), t.dp ≤ d → c [.p t.e, .p o.e, .p (.int at'), .p (.int over)] S = .ok (.p (o.pl at' over t).e) S
section
variable {cl : Cl} {kp kk kb km kf d : Nat}
theorem plain_ok : SPlain (runD cl 2 2 m_made_plain) := by
  intro t S D ks h hl
  unfold m_made_plain
  have hl2 : ks.length + 1 ≤ 1000000 := by omega
  cases ks with
  | nil => simp [runD, h]
  | cons k ks =>
    simp at hl hl2
    have hl3 : 1 + (ks.length + 1) ≤ 1000000 := by omega
    simp [runD, h, hl3]
theorem size_loop {th : Option PV} {xs : List P} (ih : SSize (cl kf) d) (hx : ∀ x ∈ xs, pdB x x = true) {i : Nat} : ∀ (ks : List Th) (n : Int) (kd : Option PV) (S : Sto), (∀ k ∈ ks, k.dp ≤ d) → S[i]? = some (.lst xs) →
    ∃ kd', forL (.nm 2) [(i, xs)] (exss cl (.cons (.asg (.nm 1) (.bin .add (.v 1) (.call kf (.cons (.v 2) .nil)))) .nil)) (ks.map fun k => PV.p k.e) [th, some (.p (.int n)), kd] S = .nx [th, some (.p (.int (n + ((ks.map Th.sz).sum : Nat)))), kd'] S
  | [], n, kd, S, _, h => ⟨kd, by rw [List.map_nil, for_nil (by simp [h, wtC_ hx])]; simp⟩
  | k :: ks, n, kd, S, hd, h => by
    have e := ih k S (hd k List.mem_cons_self)
    obtain ⟨kd', r⟩ := size_loop ih hx ks (n + k.sz) (some (.p k.e)) S (fun x hx => hd x (List.mem_cons_of_mem _ hx)) h
    refine ⟨kd', ?_⟩
    rw [List.map_cons, for_cons (by simp [h, wtC_ hx])]
    simp [e]
    rw [r]
    simp [Int.add_assoc]
theorem kids_sz (t : Th) : 1 + (t.kids.map Th.sz).sum = t.sz := by
  cases t <;> simp <;> omega
theorem size_ok (hk : SKids (cl kk)) (ih : SSize (cl kf) d) : SSize (runD cl 1 3 (m_size_of kk kf)) (d + 1) := by
  intro t S hd
  have hk' := fun S => hk t S
  obtain ⟨kd', r⟩ := size_loop (i := S.length) (th := some (.p t.e)) (xs := t.kids.map Th.e) ih (fun x hx => by obtain ⟨y, _, rfl⟩ := List.mem_map.mp hx; exact pd_e y) t.kids 1 none (S ++ [.lst (t.kids.map Th.e)]) (kids_dp t hd) (by simp)
  unfold m_size_of
  have hz := kids_sz t
  have hz2 : (1 : Int) + (((t.kids.map Th.sz).sum : Nat) : Int) = (t.sz : Int) := by omega
  have hm : (t.kids.map Th.e).map PV.p = t.kids.map fun k => PV.p k.e := by rw [List.map_map]; rfl
  rw [hz2] at r
  simp only [runD]
  simp [hk', -List.map_map, hm, r]
end
end Kp

set_option Elab.async false
set_option linter.all false
set_option maxRecDepth 100000
set_option maxHeartbeats 8000000
set_option autoImplicit false
/-! S10: depth, greatest, lifting, putting in. -/
namespace Kp
open PySem PySem.Spec PyProof.Rows L2
section
variable {cl : Cl} {kp kk kb km kf d : Nat}
theorem kids_few (t : Th) : t.kids.length ≤ 4 := by cases t <;> simp
/-- a comprehension over the kids -/
theorem kids_comp {f : Th → Int} {e : Ex} {t : Th} {S : Sto} (he : ∀ k ∈ t.kids, ∀ S, ev cl e [some (.p t.e), some (.p k.e)] S = .ok (.p (.int (f k))) S) (hk : ∀ S, cl kk [.p t.e] S = .ok (.loc S.length) (S ++ [.lst (t.kids.map Th.e)])) :
    ev cl (.comp 1 (.val (.call kk (.cons (.v 0) .nil))) .non e) [some (.p t.e), none] S = .ok (.loc (S.length + 1)) (S ++ [.lst (t.kids.map Th.e), .lst ((t.kids.map f).map .int)]) := by
  have hh : ∀ x ∈ t.kids, ∀ acc : List P, evC cl .non (List.set [some (.p t.e), none] 1 (some (.p x.e))) ((S ++ [.lst (t.kids.map Th.e)]) ++ [.lst acc]) = .ok true ((S ++ [.lst (t.kids.map Th.e)]) ++ [.lst acc]) ∧
      (true = true → ev cl e (List.set [some (.p t.e), none] 1 (some (.p x.e))) ((S ++ [.lst (t.kids.map Th.e)]) ++ [.lst acc]) = .ok (.p (.int (f x))) ((S ++ [.lst (t.kids.map Th.e)]) ++ [.lst acc])) :=
    fun x hx acc => ⟨by simp, fun _ => he x hx _⟩
  have c := compL_ok (el := ev cl e) (tst := evC cl .non) (i := 1) (w := [(S.length, t.kids.map Th.e)]) (S0 := S ++ [.lst (t.kids.map Th.e)]) (en := [some (.p t.e), none])
    (fun (k : Th) => PV.p k.e) (fun _ => true) (fun k => PyData.int (f k)) (fun q hq x hx => by
      have : q = (S.length, t.kids.map Th.e) := by simpa using hq
      subst this
      obtain ⟨y, _, rfl⟩ := List.mem_map.mp hx
      exact pd_e y) (fun q hq => by
      have : q = (S.length, t.kids.map Th.e) := by simpa using hq
      subst this
      simp) t.kids [] hh (by have := kids_few t; simp; omega)
  rw [ev_comp]
  have e1 : evI cl (.val (.call kk (.cons (.v 0) .nil))) [some (.p t.e), none] S = .ok (t.kids.map fun k => PV.p k.e, [(S.length, t.kids.map Th.e)]) (S ++ [.lst (t.kids.map Th.e)]) := by
    simp [hk]
  rw [e1, bind_ok, kComp_]
  dsimp only
  rw [c]
  have ff : t.kids.filter (fun _ => true) = t.kids := List.filter_eq_self.mpr fun _ _ => rfl
  rw [ff]
  simp
theorem depth_max (t : Th) : 1 + maxL 0 (t.kids.map fun k => (k.dp : Int)) = (t.dp : Int) := by
  cases t with
  | n1 w a => simp [maxL, maxI]; omega
  | n2 w a b => simp only [Th.kids, kids_4, List.map_cons, List.map_nil, maxL, maxI, Th.dp]; split <;> omega
  | n3 w a b c => simp only [kids_5, List.map_cons, List.map_nil, maxL, maxI, Th.dp]; repeat' split
                  all_goals omega
  | rc a b c e => simp only [kids_6, List.map_cons, List.map_nil, maxL, maxI, Th.dp]; repeat' split
                  all_goals omega
  | _ => simp [maxL]
theorem depth_ok (hk : SKids (cl kk)) (ih : SDepth (cl kf) d) : SDepth (runD cl 1 2 (m_depth_of kk kf)) (d + 1) := by
  intro t S hd
  have hk' := fun S => hk t S
  have hc := kids_comp (S := S) (f := fun k => (k.dp : Int)) (e := .call kf (.cons (.v 1) .nil)) (fun k hk S => by simp [ih k S (kids_dp t hd k hk)]) hk'
  unfold m_depth_of
  have hm := depth_max t
  have e2 : ev cl (.bin .add (.c (.int 1)) (.bi .maxd (.cons (.comp 1 (.val (.call kk (.cons (.v 0) .nil))) .non (.call kf (.cons (.v 1) .nil))) (.cons (.c (.int 0)) .nil)))) [some (.p t.e), none] S = .ok (.p (.int (t.dp : Int))) (S ++ [.lst (t.kids.map Th.e), .lst ((t.kids.map fun k => (k.dp : Int)).map .int)]) := by
    rw [ev_bin, ev_c, bind_ok, kBin_, ev_bi, evs_cons, hc]
    simp [-List.map_map, hm]
  refine Eq.trans (if_pos rfl) ?_
  show endV S.length (exss cl _ [some (.p t.e), none] S) = _
  rw [exss_cons, exs_ret, e2]
  simp
theorem great_max (t : Th) (h : ∀ n, t ≠ .var n) : maxL (-1) (t.kids.map Th.gs) = t.gs := by
  cases t with
  | var n => exact absurd rfl (h n)
  | n1 w a => simp [maxL, maxI]
  | n2 w a b => simp [maxL, maxI, mx]
  | n3 w a b c => simp [maxL, maxI, mx]
  | rc a b c e => simp [maxL, maxI, mx]
  | _ => simp [maxL]
theorem great_ok (hk : SKids (cl kk)) (ih : SGreat (cl kf) d) : SGreat (runD cl 1 2 (m_greatest_of kk kf)) (d + 1) := by
  intro t S hd
  by_cases hv : ∃ n, t = .var n
  · obtain ⟨n, rfl⟩ := hv
    unfold m_greatest_of
    simp [runD]
  · have hv' : ∀ n, t ≠ .var n := fun n e => hv ⟨n, e⟩
    have nw := w_var t hv'
    have hk' := fun S => hk t S
    have hc := kids_comp (S := S) (f := fun k => k.gs) (e := .call kf (.cons (.v 1) .nil)) (fun k hk S => by simp [ih k S (kids_dp t hd k hk)]) hk'
    have hm := great_max t hv'
    have e2 : ev cl (.bi .maxd (.cons (.comp 1 (.val (.call kk (.cons (.v 0) .nil))) .non (.call kf (.cons (.v 1) .nil))) (.cons (.neg (.c (.int 1))) .nil))) [some (.p t.e), none] S = .ok (.p (.int t.gs)) (S ++ [.lst (t.kids.map Th.e), .lst ((t.kids.map fun k => k.gs).map .int)]) := by
      rw [ev_bi, evs_cons, hc]
      have hm' : maxL (-1) (t.kids.map fun k => k.gs) = t.gs := hm
      simp [-List.map_map, hm']
    unfold m_greatest_of
    refine Eq.trans (if_pos rfl) ?_
    show endV S.length (exss cl _ [some (.p t.e), none] S) = _
    rw [exss_cons]
    have e3 : exs cl (.ift (.cmp .eq (.ix (.v 0) (.c (.int 0))) (.c (.str "var"))) (.cons (.ret (.ix (.v 0) (.c (.int 1)))) .nil) .nil) [some (.p t.e), none] S = .nx [some (.p t.e), none] S := by simp [nw]
    rw [e3, seq_nx, exss_cons, exs_ret, e2]
    simp
end
end Kp

set_option Elab.async false
set_option linter.all false
set_option maxRecDepth 100000
set_option maxHeartbeats 8000000
set_option autoImplicit false
/-! S11: lifting, putting in. -/
namespace Kp
open PySem PySem.Spec PyProof.Rows L2
theorem kb_map (t : Th) : ((t.kids.map Th.e).zip (t.binds.map fun (n : Nat) => PyData.int (n : Int))).map (fun q => PV.p (.tuple [q.1, q.2])) = t.kb.map fun q => PV.p (.tuple [q.1.e, .int (q.2 : Int)]) := kb_zip t
section
variable {cl : Cl} {kp kk kb km kf d : Nat}
/-- kids put anew, one by one -/
theorem move_loop {th : Option PV} {by' low : Int} {i k1 k2 : Nat} {xs ys : List P} (ih : SMoved (cl kf) d) (n1 : i ≠ k1) (n2 : i ≠ k2) (hx : ∀ x ∈ xs, pdB x x = true) (hy : ∀ x ∈ ys, pdB x x = true) :
    ∀ (ks : List (Th × Nat)) (kd bd : Option PV) (S : Sto) (acc : List P), (∀ q ∈ ks, q.1.dp ≤ d) → S[i]? = some (.lst acc) → S[k1]? = some (.lst xs) → S[k2]? = some (.lst ys) → acc.length + ks.length ≤ 4 →
    ∃ kd' bd', forL (.tp [4, 5]) [(k1, xs), (k2, ys)] (exss cl (.cons (.ex (.mth .append (.v 3) (.cons (.call kf (.cons (.v 4) (.cons (.v 1) (.cons (.bin .add (.v 2) (.v 5)) .nil)))) .nil))) .nil)) (ks.map fun q => PV.p (.tuple [q.1.e, .int (q.2 : Int)]))
      [th, some (.p (.int by')), some (.p (.int low)), some (.loc i), kd, bd] S = .nx [th, some (.p (.int by')), some (.p (.int low)), some (.loc i), kd', bd'] (S.set i (.lst (acc ++ ks.map fun q => (q.1.mv by' (low + q.2)).e)))
  | [], kd, bd, S, acc, _, h1, h2, h3, _ => by
    refine ⟨kd, bd, ?_⟩
    rw [List.map_nil, for_nil (by simp [h2, h3, wtC_ hx, wtC_ hy])]
    simp [set_same h1]
  | q :: ks, kd, bd, S, acc, hd, h1, h2, h3, hl => by
    have hl' : acc.length + (ks.length + 1) ≤ 4 := hl
    have hl2 : acc.length < 1000000 := by omega
    have e := ih q.1 by' (low + q.2) S (hd q List.mem_cons_self)
    obtain ⟨kd', bd', r⟩ := move_loop ih n1 n2 hx hy ks (some (.p q.1.e)) (some (.p (.int (q.2 : Int)))) (S.set i (.lst (acc ++ [(q.1.mv by' (low + q.2)).e]))) (acc ++ [(q.1.mv by' (low + q.2)).e])
      (fun x hx => hd x (List.mem_cons_of_mem _ hx)) (set_at (has_of h1)) (by rw [List.getElem?_set_ne n1]; exact h2) (by rw [List.getElem?_set_ne n2]; exact h3) (by simp; omega)
    refine ⟨kd', bd', ?_⟩
    rw [List.map_cons, for_cons (by simp [h2, h3, wtC_ hx, wtC_ hy])]
    simp [h1, e, hl2]
    try simp at r
    rw [r]
theorem move_loop2 {th o : Option PV} {oe : P} {at' over : Int} {i k1 k2 : Nat} {xs ys : List P} {ot : Th} (ho : o = some (.p ot.e)) (ih : SPlaced (cl kf) d ot) (n1 : i ≠ k1) (n2 : i ≠ k2) (hx : ∀ x ∈ xs, pdB x x = true) (hy : ∀ x ∈ ys, pdB x x = true) :
    ∀ (ks : List (Th × Nat)) (kd bd : Option PV) (S : Sto) (acc : List P), (∀ q ∈ ks, q.1.dp ≤ d) → S[i]? = some (.lst acc) → S[k1]? = some (.lst xs) → S[k2]? = some (.lst ys) → acc.length + ks.length ≤ 4 →
    ∃ kd' bd', forL (.tp [5, 6]) [(k1, xs), (k2, ys)] (exss cl (.cons (.ex (.mth .append (.v 4) (.cons (.call kf (.cons (.v 5) (.cons (.v 1) (.cons (.v 2) (.cons (.bin .add (.v 3) (.v 6)) .nil))))) .nil))) .nil)) (ks.map fun q => PV.p (.tuple [q.1.e, .int (q.2 : Int)]))
      [th, o, some (.p (.int at')), some (.p (.int over)), some (.loc i), kd, bd] S = .nx [th, o, some (.p (.int at')), some (.p (.int over)), some (.loc i), kd', bd'] (S.set i (.lst (acc ++ ks.map fun q => (ot.pl at' (over + q.2) q.1).e)))
  | [], kd, bd, S, acc, _, h1, h2, h3, _ => by
    refine ⟨kd, bd, ?_⟩
    rw [List.map_nil, for_nil (by simp [h2, h3, wtC_ hx, wtC_ hy])]
    simp [set_same h1]
  | q :: ks, kd, bd, S, acc, hd, h1, h2, h3, hl => by
    have hl' : acc.length + (ks.length + 1) ≤ 4 := hl
    have hl2 : acc.length < 1000000 := by omega
    have e := ih q.1 at' (over + q.2) S (hd q List.mem_cons_self)
    obtain ⟨kd', bd', r⟩ := move_loop2 (oe := oe) ho ih n1 n2 hx hy ks (some (.p q.1.e)) (some (.p (.int (q.2 : Int)))) (S.set i (.lst (acc ++ [(ot.pl at' (over + q.2) q.1).e]))) (acc ++ [(ot.pl at' (over + q.2) q.1).e])
      (fun x hx => hd x (List.mem_cons_of_mem _ hx)) (set_at (has_of h1)) (by rw [List.getElem?_set_ne n1]; exact h2) (by rw [List.getElem?_set_ne n2]; exact h3) (by simp; omega)
    refine ⟨kd', bd', ?_⟩
    rw [List.map_cons, for_cons (by simp [h2, h3, wtC_ hx, wtC_ hy])]
    subst ho
    simp [h1, e, hl2]
    try simp at r
    rw [r]
theorem kb_if (t : Th) (f : Th × Nat → P) : (if t.kb.map f = [] then t.e else .tuple (.str t.w :: t.kb.map f)) = if t.kids = [] then t.e else .tuple (.str t.w :: t.kb.map f) := by
  have h : (t.kb.map f = []) ↔ t.kids = [] := by rw [kb_nil]; simp
  by_cases c : t.kids = []
  · rw [if_pos c, if_pos (h.mpr c)]
  · rw [if_neg c, if_neg fun z => c (h.mp z)]
theorem moved_ok (hp : SPlain (cl kp)) (hb : SBinds (cl kb)) (hk : SKids (cl kk)) (ih : SMoved (cl kf) d) : SMoved (runD cl 3 6 (m_moved kp kk kb kf)) (d + 1) := by
  intro t by' low S hd
  unfold m_moved
  by_cases hv : ∃ n, t = .var n
  · obtain ⟨n, rfl⟩ := hv
    by_cases c : low ≤ n
    · simp [runD, c, Th.e]
    · simp [runD, c, Th.e]
  · have hv' : ∀ n, t ≠ .var n := fun n e => hv ⟨n, e⟩
    have nw := w_var t hv'
    have hk' := fun S => hk t S
    have hb' := fun S => hb t S
    have few := kb_few t
    obtain ⟨kd', bd', r⟩ := move_loop (i := S.length) (k1 := S.length + 1) (k2 := S.length + 2) (th := some (.p t.e)) (by' := by') (low := low) (xs := t.kids.map Th.e) (ys := t.binds.map fun (n : Nat) => PyData.int (n : Int)) ih (by omega) (by omega)
      (fun x hx => by obtain ⟨y, _, rfl⟩ := List.mem_map.mp hx; exact pd_e y) (fun x hx => by obtain ⟨y, _, rfl⟩ := List.mem_map.mp hx; exact pd_i)
      t.kb none none (S ++ [.lst [], .lst (t.kids.map Th.e), .lst (t.binds.map fun (n : Nat) => PyData.int (n : Int))]) [] (kb_dp t hd) (by simp) (by simp) (by simp) (by simpa using few)
    have z := kb_map t
    have pl := hp t (S ++ [.lst (t.kb.map fun q => (q.1.mv by' (low + q.2)).e), .lst (t.kids.map Th.e), .lst (t.binds.map fun (n : Nat) => PyData.int (n : Int))]) S.length (t.kb.map fun q => (q.1.mv by' (low + q.2)).e) (by simp) (by simpa using few)
    rw [kb_if, ← mv_kb t by' low hv'] at pl
    simp [runD, nw, hk', hb', kb_len t]
    try simp at r
    try simp at z
    rw [z, r]
    simp [pl]
theorem placed_ok {o : Th} {d2 : Nat} (hp : SPlain (cl kp)) (hb : SBinds (cl kb)) (hk : SKids (cl kk)) (hm : SMoved (cl km) d2) (ho : o.dp ≤ d2) (ih : SPlaced (cl kf) d o) : SPlaced (runD cl 4 7 (m_placed kp kk kb kf km)) (d + 1) o := by
  intro t at' over S hd
  unfold m_placed
  by_cases hv : ∃ n, t = .var n
  · obtain ⟨n, rfl⟩ := hv
    have em := fun S => hm o over 0 S ho
    by_cases c : n = at' + over
    · simp [runD, c, em]
    · by_cases c2 : at' + over < n
      · simp [runD, c, c2, Th.e]
      · simp [runD, c, c2]
  · have hv' : ∀ n, t ≠ .var n := fun n e => hv ⟨n, e⟩
    have nw := w_var t hv'
    have hk' := fun S => hk t S
    have hb' := fun S => hb t S
    have few := kb_few t
    obtain ⟨kd', bd', r⟩ := move_loop2 (oe := .none) (o := some (.p o.e)) (ot := o) (i := S.length) (k1 := S.length + 1) (k2 := S.length + 2) (th := some (.p t.e)) (at' := at') (over := over) (xs := t.kids.map Th.e) (ys := t.binds.map fun (n : Nat) => PyData.int (n : Int)) rfl ih (by omega) (by omega)
      (fun x hx => by obtain ⟨y, _, rfl⟩ := List.mem_map.mp hx; exact pd_e y) (fun x hx => by obtain ⟨y, _, rfl⟩ := List.mem_map.mp hx; exact pd_i)
      t.kb none none (S ++ [.lst [], .lst (t.kids.map Th.e), .lst (t.binds.map fun (n : Nat) => PyData.int (n : Int))]) [] (kb_dp t hd) (by simp) (by simp) (by simp) (by simpa using few)
    have z := kb_map t
    have pl := hp t (S ++ [.lst (t.kb.map fun q => (o.pl at' (over + q.2) q.1).e), .lst (t.kids.map Th.e), .lst (t.binds.map fun (n : Nat) => PyData.int (n : Int))]) S.length (t.kb.map fun q => (o.pl at' (over + q.2) q.1).e) (by simp) (by simpa using few)
    rw [kb_if, ← pl_kb t o at' over hv'] at pl
    simp [runD, nw, hk', hb', kb_len t]
    try simp at r
    try simp at z
    rw [z, r]
    simp [pl]
/-- too great -/
def Th.tg (t : Th) : Prop := 600 < t.sz ∨ 40 < t.dp ∨ 99 < t.gs
def bdR (g : Nat) (t : Th) (S : Sto) (r : R PV) : Prop := (t.tg ∧ r = .ex g S) ∨ (¬ t.tg ∧ r = .ok (.p t.e) S)
def SBound (c : Cf) (g d : Nat) : Prop := ∀ (t : Th) (S : Sto), t.dp ≤ d → bdR g t S (c [.p t.e] S)
theorem bound_ok {ks kd kg g : Nat} (hs : SSize (cl ks) d) (hd : SDepth (cl kd) d) (hg : SGreat (cl kg) d) : SBound (runD cl 1 1 (m_bounded ks kd kg g)) g d := by
  intro t S h
  have e1 := fun S => hs t S h
  have e2 := fun S => hd t S h
  have e3 := fun S => hg t S h
  unfold m_bounded
  by_cases c1 : 600 < t.sz
  · have c1' : (600 : Int) < t.sz := by omega
    exact .inl ⟨.inl c1, by simp [runD, e1, c1']⟩
  · have c1' : ¬ (600 : Int) < t.sz := by omega
    by_cases c2 : 40 < t.dp
    · have c2' : (40 : Int) < t.dp := by omega
      exact .inl ⟨.inr (.inl c2), by simp [runD, e1, e2, c1', c2']⟩
    · have c2' : ¬ (40 : Int) < t.dp := by omega
      by_cases c3 : 99 < t.gs
      · exact .inl ⟨.inr (.inr c3), by simp [runD, e1, e2, e3, c1', c2', c3]⟩
      · exact .inr ⟨fun z => by rcases z with z | z | z <;> omega, by simp [runD, e1, e2, e3, c1', c2', c3]⟩
end
end Kp

set_option Elab.async false
set_option linter.all false
set_option maxRecDepth 100000
set_option maxHeartbeats 8000000
set_option autoImplicit false
/-! S13: lifted, put_in; what they are to one another. -/
namespace Kp
open PySem PySem.Spec PyProof.Rows L2
@[simp] theorem mv_dp (by' : Int) : ∀ (t : Th) (low : Int), (t.mv by' low).dp = t.dp
  | .var n, low => by simp only [Th.mv]; split <;> simp
  | .nm _, _ => rfl
  | .n0 _, _ => rfl
  | .n1 _ a, low => by simp only [Th.mv, Th.dp, mv_dp by' a]
  | .n2 _ a b, low => by simp only [Th.mv, Th.dp, mv_dp by' a, mv_dp by' b]
  | .n3 _ a b c, low => by simp only [Th.mv, Th.dp, mv_dp by' a, mv_dp by' b, mv_dp by' c]
  | .rc a b c d, low => by simp only [Th.mv, Th.dp, mv_dp by' a, mv_dp by' b, mv_dp by' c, mv_dp by' d]
theorem pl_dp (o : Th) (at' : Int) : ∀ (t : Th) (over : Int), (o.pl at' over t).dp ≤ t.dp + o.dp
  | .var n, over => by
    have := dp_pos' o
    simp only [Th.pl]
    split
    · rw [mv_dp]; simp
    · split <;> simp only [Th.dp] <;> omega
  | .nm _, _ => by simp
  | .n0 _, _ => by simp
  | .n1 _ a, over => by have := pl_dp o at' a over; simp only [Th.pl, Th.dp]; omega
  | .n2 w a b, over => by have := pl_dp o at' a over; have := pl_dp o at' b (over + w.b); simp only [Th.pl, Th.dp]; omega
  | .n3 w a b c, over => by have := pl_dp o at' a (over + w.b); have := pl_dp o at' b over; have := pl_dp o at' c over; simp only [Th.pl, Th.dp]; omega
  | .rc a b c d, over => by have := pl_dp o at' a (over + 1); have := pl_dp o at' b over; have := pl_dp o at' c over; have := pl_dp o at' d over; simp only [Th.pl, Th.dp]; omega
where dp_pos' (t : Th) : 1 ≤ t.dp := by cases t <;> simp
theorem nv_sz : ∀ t : Th, t.nv ≤ t.sz
  | .var _ => by simp
  | .nm _ => by simp
  | .n0 _ => by simp
  | .n1 _ a => by have := nv_sz a; simp only [Th.nv, Th.sz]; omega
  | .n2 _ a b => by have := nv_sz a; have := nv_sz b; simp only [Th.nv, Th.sz]; omega
  | .n3 _ a b c => by have := nv_sz a; have := nv_sz b; have := nv_sz c; simp only [Th.nv, Th.sz]; omega
  | .rc a b c d => by have := nv_sz a; have := nv_sz b; have := nv_sz c; have := nv_sz d; simp only [Th.nv, Th.sz]; omega
def SLift (c : Cf) (g d : Nat) : Prop := ∀ (t : Th) (by' low : Int) (S : Sto), t.dp ≤ d → bdR g (t.mv by' low) S (c [.p t.e, .p (.int by'), .p (.int low)] S)
def ptR (g : Nat) (t o : Th) (at' : Int) (S : Sto) (r : R PV) : Prop := ((600 < (t.sz : Int) + cnt ((t.fr 0).foldl bump []) at' * ((o.sz : Int) - 1) ∨ (o.pl at' 0 t).tg) ∧ r = .ex g S) ∨ (¬ (600 < (t.sz : Int) + cnt ((t.fr 0).foldl bump []) at' * ((o.sz : Int) - 1) ∨ (o.pl at' 0 t).tg) ∧ r = .ok (.p (o.pl at' 0 t).e) S)
def SPut (c : Cf) (g d : Nat) : Prop := ∀ (t o : Th) (at' : Int) (S : Sto), t.dp ≤ d → o.dp ≤ d → t.sz < 1000000 → o.sz < 1000000 → ptR g t o at' S (c [.p t.e, .p o.e, .p (.int at')] S)
section
variable {cl : Cl} {kb km kp ks kn g d : Nat}
theorem lift_ok (hb : SBound (cl kb) g d) (hm : SMoved (cl km) d) : SLift (runD cl 3 3 (m_lifted kb km)) g d := by
  intro t by' low S h
  have e := fun S => hm t by' low S h
  unfold m_lifted
  rcases hb (t.mv by' low) S (by rw [mv_dp]; exact h) with ⟨a, b⟩ | ⟨a, b⟩
  · exact .inl ⟨a, by simp [runD, e, b]⟩
  · exact .inr ⟨a, by simp [runD, e, b]⟩
theorem put_ok (hb : SBound (cl kb) g (d + d)) (hp : ∀ o, o.dp ≤ d → SPlaced (cl kp) d o) (hs : SSize (cl ks) d) (hn : SNoted (cl kn) d) : SPut (runD cl 3 4 (m_put_in kb kp ks kn g)) g d := by
  intro t o at' S h1 h2 l1 l2
  have hv := nv_sz t
  have e := hn t (S ++ [.dct []]) S.length [] 0 h1 (by simp [encK]) (by simp; omega)
  have e' : cl kn [.p t.e, .p (.int 0), .loc S.length] (S ++ [.dct []]) = .ok (.p .none) (S ++ [.dct (encK ((t.fr 0).foldl bump []))]) := by
    rw [e]; simp
  have es1 := fun S => hs t S h1
  have es2 := fun S => hs o S h2
  have ep := fun S => hp o h2 t at' 0 S h1
  have eg := luK_enc (kv := (t.fr 0).foldl bump []) (k := at')
  have cm : CMulB (cnt ((t.fr 0).foldl bump []) at') ((o.sz : Int) - 1) = true := cmul_r ⟨by omega, by omega⟩
  have hpd := pl_dp o at' t 0
  unfold m_put_in
  unfold ptR
  generalize cnt ((t.fr 0).foldl bump []) at' = q at *
  by_cases c : 600 < (t.sz : Int) + q * ((o.sz : Int) - 1)
  · exact .inl ⟨.inl c, by simp [runD, e', es1, es2, eg, cm, c]⟩
  · rcases hb (o.pl at' 0 t) (S ++ [.dct (encK ((t.fr 0).foldl bump []))]) (by omega) with ⟨a, b⟩ | ⟨a, b⟩
    · exact .inl ⟨.inr a, by simp [runD, e', es1, es2, eg, cm, c, ep, b]⟩
    · exact .inr ⟨fun z => z.elim c a, by simp [runD, e', es1, es2, eg, cm, c, ep, b]⟩
end
/-! the laws of lifting and putting in -/
theorem mv_swap : ∀ (t : Th) (low high : Int), low ≤ high → (t.mv 1 high).mv 1 low = (t.mv 1 low).mv 1 (high + 1)
  | .var n, low, high, h => by
    simp only [Th.mv]
    by_cases a : high ≤ n
    · have b : low ≤ n := by omega
      have c : low ≤ n + 1 := by omega
      have d : high + 1 ≤ n + 1 := by omega
      simp only [if_pos a, if_pos b, Th.mv, if_pos c, if_pos d]
    · by_cases b : low ≤ n
      · have d : ¬ high + 1 ≤ n + 1 := by omega
        simp only [if_neg a, if_pos b, Th.mv, if_neg d]
      · have d : ¬ high + 1 ≤ n := by omega
        simp only [if_neg a, if_neg b, Th.mv, if_neg d]
  | .nm _, _, _, _ => rfl
  | .n0 _, _, _, _ => rfl
  | .n1 _ a, low, high, h => by simp only [Th.mv, mv_swap a low high h]
  | .n2 w a b, low, high, h => by
    have e : high + w.b + 1 = high + 1 + w.b := by omega
    simp only [Th.mv, mv_swap a low high h, mv_swap b (low + w.b) (high + w.b) (by omega), e]
  | .n3 w a b c, low, high, h => by
    have e : high + w.b + 1 = high + 1 + w.b := by omega
    simp only [Th.mv, mv_swap a (low + w.b) (high + w.b) (by omega), mv_swap b low high h, mv_swap c low high h, e]
  | .rc a b c d, low, high, h => by
    simp only [Th.mv, mv_swap a (low + 1) (high + 1) (by omega), mv_swap b low high h, mv_swap c low high h, mv_swap d low high h]
/-- what was lifted from low on has nothing free there, and putting in gives it back -/
theorem pl_mv (o : Th) (at' : Int) : ∀ (t : Th) (over : Int), o.pl at' over (t.mv 1 (at' + over)) = t
  | .var n, over => by
    simp only [Th.mv]
    by_cases a : at' + over ≤ n
    · have b : ¬ n + 1 = at' + over := by omega
      have c : at' + over < n + 1 := by omega
      have d : n + 1 - 1 = n := by omega
      simp only [if_pos a, Th.pl, if_neg b, if_pos c, d]
    · have b : ¬ n = at' + over := by omega
      have c : ¬ at' + over < n := by omega
      simp only [if_neg a, Th.pl, if_neg b, if_neg c]
  | .nm _, _ => rfl
  | .n0 _, _ => rfl
  | .n1 _ a, over => by simp only [Th.mv, Th.pl, pl_mv o at' a over]
  | .n2 w a b, over => by
    have e : at' + over + w.b = at' + (over + w.b) := by omega
    simp only [Th.mv, Th.pl, pl_mv o at' a over, e, pl_mv o at' b (over + w.b)]
  | .n3 w a b c, over => by
    have e : at' + over + w.b = at' + (over + w.b) := by omega
    simp only [Th.mv, Th.pl, e, pl_mv o at' a (over + w.b), pl_mv o at' b over, pl_mv o at' c over]
  | .rc a b c d, over => by
    have e : at' + over + 1 = at' + (over + 1) := by omega
    simp only [Th.mv, Th.pl, e, pl_mv o at' a (over + 1), pl_mv o at' b over, pl_mv o at' c over, pl_mv o at' d over]
theorem fr_mv : ∀ (t : Th) (low over : Int), low ∉ (t.mv 1 (low + over)).fr over
  | .var n, low, over => by
    simp only [Th.mv]
    split
    · simp only [Th.fr]; split <;> simp; omega
    · simp only [Th.fr]; split <;> simp; omega
  | .nm _, _, _ => by simp
  | .n0 _, _, _ => by simp
  | .n1 _ a, low, over => by simpa using fr_mv a low over
  | .n2 w a b, low, over => by
    have h1 := fr_mv a low over
    have h2 := fr_mv b low over
    have h3 := fr_mv b low (over + 1)
    have e : low + over + 1 = low + (over + 1) := by omega
    cases w <;> simp only [Th.mv, Th.fr, U2.b, e, Int.add_zero, List.mem_append, not_or] <;> first | exact ⟨h1, h3⟩ | exact ⟨h1, h2⟩
  | .n3 w a b c, low, over => by
    have h1 := fr_mv a low over
    have h1' := fr_mv a low (over + 1)
    have h2 := fr_mv b low over
    have h3 := fr_mv c low over
    have e : low + over + 1 = low + (over + 1) := by omega
    cases w <;> simp only [Th.mv, Th.fr, U3.b, e, Int.add_zero, List.mem_append, not_or] <;> first | exact ⟨⟨h1, h2⟩, h3⟩ | exact ⟨⟨h1', h2⟩, h3⟩
  | .rc a b c d, low, over => by
    have h1 := fr_mv a low (over + 1)
    have h2 := fr_mv b low over
    have h3 := fr_mv c low over
    have h4 := fr_mv d low over
    have e : low + over + 1 = low + (over + 1) := by omega
    simp only [Th.mv, Th.fr, e, List.mem_append, not_or]
    exact ⟨⟨⟨h1, h2⟩, h3⟩, h4⟩
end Kp

set_option Elab.async false
set_option linter.all false
set_option maxRecDepth 100000
set_option maxHeartbeats 8000000
set_option autoImplicit false
/-! S14: the laws of putting in. -/
namespace Kp
open PySem PySem.Spec PyProof.Rows L2
/-- lifting twice in one -/
theorem mv_add {a v : Int} (ha : 0 ≤ a) : ∀ (t : Th) (c : Int), (t.mv a c).mv v (a + c) = t.mv (a + v) c
  | .var n, c => by
    simp only [Th.mv]
    by_cases h : c ≤ n
    · have h2 : a + c ≤ n + a := by omega
      have e : n + a + v = n + (a + v) := by omega
      simp only [if_pos h, Th.mv, if_pos h2, e]
    · have h2 : ¬ a + c ≤ n := by omega
      simp only [if_neg h, Th.mv, if_neg h2]
  | .nm _, _ => rfl
  | .n0 _, _ => rfl
  | .n1 _ x, c => by simp only [Th.mv, mv_add ha x c]
  | .n2 w x y, c => by
    have e : a + c + w.b = a + (c + w.b) := by omega
    simp only [Th.mv, mv_add ha x c, e, mv_add ha y (c + w.b)]
  | .n3 w x y z, c => by
    have e : a + c + w.b = a + (c + w.b) := by omega
    simp only [Th.mv, e, mv_add ha x (c + w.b), mv_add ha y c, mv_add ha z c]
  | .rc x y z u, c => by
    have e : a + c + 1 = a + (c + 1) := by omega
    simp only [Th.mv, e, mv_add ha x (c + 1), mv_add ha y c, mv_add ha z c, mv_add ha u c]
theorem U2.b0 (w : U2) : 0 ≤ w.b := by cases w <;> decide
theorem U3.b0 (w : U3) : 0 ≤ w.b := by cases w <;> decide
/-- lifting by one above, then by v below -/
theorem mv_over {v low : Int} (hv : 0 ≤ v) (hl : 0 ≤ low) : ∀ (t : Th) (k : Int), (t.mv 1 (low + k)).mv v k = (t.mv v k).mv 1 (low + v + k)
  | .var n, k => by
    simp only [Th.mv]
    by_cases a : low + k ≤ n
    · have b : k ≤ n + 1 := by omega
      have c : k ≤ n := by omega
      have d : low + v + k ≤ n + v := by omega
      have e : n + 1 + v = n + v + 1 := by omega
      simp only [if_pos a, Th.mv, if_pos b, if_pos c, if_pos d, e]
    · by_cases c : k ≤ n
      · have d : ¬ low + v + k ≤ n + v := by omega
        simp only [if_neg a, Th.mv, if_pos c, if_neg d]
      · have d : ¬ low + v + k ≤ n := by omega
        simp only [if_neg a, Th.mv, if_neg c, if_neg d]
  | .nm _, _ => rfl
  | .n0 _, _ => rfl
  | .n1 _ x, k => by simp only [Th.mv, mv_over hv hl x k]
  | .n2 w x y, k => by
    have e1 : low + k + w.b = low + (k + w.b) := by omega
    have e2 : low + v + k + w.b = low + v + (k + w.b) := by omega
    simp only [Th.mv, mv_over hv hl x k, e1, e2, mv_over hv hl y (k + w.b)]
  | .n3 w x y z, k => by
    have e1 : low + k + w.b = low + (k + w.b) := by omega
    have e2 : low + v + k + w.b = low + v + (k + w.b) := by omega
    simp only [Th.mv, e1, e2, mv_over hv hl x (k + w.b), mv_over hv hl y k, mv_over hv hl z k]
  | .rc x y z u, k => by
    have e1 : low + k + 1 = low + (k + 1) := by omega
    have e2 : low + v + k + 1 = low + v + (k + 1) := by omega
    simp only [Th.mv, e1, e2, mv_over hv hl x (k + 1), mv_over hv hl y k, mv_over hv hl z k, mv_over hv hl u k]
/-- putting in behind lifting -/
theorem pl_over {v h : Int} (hv : 0 ≤ v) (hh : 0 ≤ h) (o : Th) : ∀ (t : Th) (k : Int), 0 ≤ k → o.pl h (k + v) (t.mv v k) = (o.pl h k t).mv v k
  | .var n, k, hk => by
    simp only [Th.mv]
    by_cases a : k ≤ n
    · simp only [if_pos a, Th.pl]
      by_cases b : n = h + k
      · have b2 : n + v = h + (k + v) := by omega
        have e := mv_add (v := v) hk o 0
        rw [Int.add_zero] at e
        simp only [if_pos b, if_pos b2, e]
      · have b2 : ¬ n + v = h + (k + v) := by omega
        by_cases c : h + k < n
        · have c2 : h + (k + v) < n + v := by omega
          have d : k ≤ n - 1 := by omega
          have e : n + v - 1 = n - 1 + v := by omega
          simp only [if_neg b, if_neg b2, if_pos c, if_pos c2, Th.mv, if_pos d, e]
        · have c2 : ¬ h + (k + v) < n + v := by omega
          simp only [if_neg b, if_neg b2, if_neg c, if_neg c2, Th.mv, if_pos a]
    · have b : ¬ n = h + k := by omega
      have b2 : ¬ n = h + (k + v) := by omega
      have c : ¬ h + k < n := by omega
      have c2 : ¬ h + (k + v) < n := by omega
      simp only [if_neg a, Th.pl, if_neg b, if_neg b2, if_neg c, if_neg c2, Th.mv]
  | .nm _, _, _ => rfl
  | .n0 _, _, _ => rfl
  | .n1 _ x, k, hk => by simp only [Th.mv, Th.pl, pl_over hv hh o x k hk]
  | .n2 w x y, k, hk => by
    have e : k + v + w.b = k + w.b + v := by omega
    have := w.b0
    simp only [Th.mv, Th.pl, pl_over hv hh o x k hk, e, pl_over hv hh o y (k + w.b) (by omega)]
  | .n3 w x y z, k, hk => by
    have e : k + v + w.b = k + w.b + v := by omega
    have := w.b0
    simp only [Th.mv, Th.pl, e, pl_over hv hh o x (k + w.b) (by omega), pl_over hv hh o y k hk, pl_over hv hh o z k hk]
  | .rc x y z u, k, hk => by
    have e : k + v + 1 = k + 1 + v := by omega
    simp only [Th.mv, Th.pl, e, pl_over hv hh o x (k + 1) (by omega), pl_over hv hh o y k hk, pl_over hv hh o z k hk, pl_over hv hh o u k hk]
/-- lifting behind putting in -/
theorem mv_pl {low high : Int} (h : low ≤ high) (hl : 0 ≤ low) (o : Th) : ∀ (t : Th) (k : Int), 0 ≤ k → (o.pl low k t).mv 1 (high + k) = (o.mv 1 high).pl low k (t.mv 1 (high + 1 + k))
  | .var n, k, hk => by
    simp only [Th.pl]
    by_cases a : n = low + k
    · have b : ¬ high + 1 + k ≤ n := by omega
      have e := mv_over (v := k) (low := high) hk (by omega) o 0
      rw [Int.add_zero, Int.add_zero] at e
      simp only [if_pos a, Th.mv, if_neg b, Th.pl, e]
    · by_cases c : low + k < n
      · by_cases d : high + 1 + k ≤ n
        · have d2 : high + k ≤ n - 1 := by omega
          have a2 : ¬ n + 1 = low + k := by omega
          have c2 : low + k < n + 1 := by omega
          have e : n - 1 + 1 = n + 1 - 1 := by omega
          simp only [if_neg a, if_pos c, Th.mv, if_pos d, if_pos d2, Th.pl, if_neg a2, if_pos c2, e]
        · have d2 : ¬ high + k ≤ n - 1 := by omega
          simp only [if_neg a, if_pos c, Th.mv, if_neg d, if_neg d2, Th.pl]
      · have d : ¬ high + 1 + k ≤ n := by omega
        have d2 : ¬ high + k ≤ n := by omega
        simp only [if_neg a, if_neg c, Th.mv, if_neg d, if_neg d2, Th.pl]
  | .nm _, _, _ => rfl
  | .n0 _, _, _ => rfl
  | .n1 _ x, k, hk => by simp only [Th.mv, Th.pl, mv_pl h hl o x k hk]
  | .n2 w x y, k, hk => by
    have e1 : high + k + w.b = high + (k + w.b) := by omega
    have e2 : high + 1 + k + w.b = high + 1 + (k + w.b) := by omega
    have := w.b0
    simp only [Th.mv, Th.pl, mv_pl h hl o x k hk, e1, e2, mv_pl h hl o y (k + w.b) (by omega)]
  | .n3 w x y z, k, hk => by
    have e1 : high + k + w.b = high + (k + w.b) := by omega
    have e2 : high + 1 + k + w.b = high + 1 + (k + w.b) := by omega
    have := w.b0
    simp only [Th.mv, Th.pl, e1, e2, mv_pl h hl o x (k + w.b) (by omega), mv_pl h hl o y k hk, mv_pl h hl o z k hk]
  | .rc x y z u, k, hk => by
    have e1 : high + k + 1 = high + (k + 1) := by omega
    have e2 : high + 1 + k + 1 = high + 1 + (k + 1) := by omega
    simp only [Th.mv, Th.pl, e1, e2, mv_pl h hl o x (k + 1) (by omega), mv_pl h hl o y k hk, mv_pl h hl o z k hk, mv_pl h hl o u k hk]
/-- putting in twice -/
theorem pl_pl {low high : Int} (h : low ≤ high) (hl : 0 ≤ low) (o p : Th) : ∀ (t : Th) (k : Int), 0 ≤ k → p.pl high k (o.pl low k t) = (p.pl high 0 o).pl low k ((p.mv 1 low).pl (high + 1) k t)
  | .var n, k, hk => by
    simp only [Th.pl]
    by_cases a : n = low + k
    · have b : ¬ n = high + 1 + k := by omega
      have c : ¬ high + 1 + k < n := by omega
      have e := pl_over (v := k) (h := high) hk (by omega) p o 0 (by omega)
      rw [Int.zero_add] at e
      simp only [if_pos a, if_neg b, if_neg c, Th.pl, e]
    · by_cases b : low + k < n
      · by_cases c : n = high + 1 + k
        · have c2 : n - 1 = high + k := by omega
          have e := mv_over (v := k) (low := low) hk hl p 0
          rw [Int.add_zero, Int.add_zero] at e
          have e2 := pl_mv (p.pl high 0 o) low (p.mv k 0) k
          simp only [if_neg a, if_pos b, if_pos c, Th.pl, if_pos c2, e, e2]
        · have c2 : ¬ n - 1 = high + k := by omega
          by_cases d : high + 1 + k < n
          · have d2 : high + k < n - 1 := by omega
            have a2 : ¬ n - 1 = low + k := by omega
            have b2 : low + k < n - 1 := by omega
            simp only [if_neg a, if_pos b, if_neg c, Th.pl, if_neg c2, if_pos d, if_pos d2, if_neg a2, if_pos b2]
          · have d2 : ¬ high + k < n - 1 := by omega
            simp only [if_neg a, if_pos b, if_neg c, Th.pl, if_neg c2, if_neg d, if_neg d2]
      · have c : ¬ n = high + 1 + k := by omega
        have d : ¬ high + 1 + k < n := by omega
        have c2 : ¬ n = high + k := by omega
        have d2 : ¬ high + k < n := by omega
        simp only [if_neg a, if_neg b, if_neg c, if_neg d, Th.pl, if_neg c2, if_neg d2]
  | .nm _, _, _ => rfl
  | .n0 _, _, _ => rfl
  | .n1 _ x, k, hk => by simp only [Th.pl, pl_pl h hl o p x k hk]
  | .n2 w x y, k, hk => by
    have := w.b0
    simp only [Th.pl, pl_pl h hl o p x k hk, pl_pl h hl o p y (k + w.b) (by omega)]
  | .n3 w x y z, k, hk => by
    have := w.b0
    simp only [Th.pl, pl_pl h hl o p x (k + w.b) (by omega), pl_pl h hl o p y k hk, pl_pl h hl o p z k hk]
  | .rc x y z u, k, hk => by
    simp only [Th.pl, pl_pl h hl o p x (k + 1) (by omega), pl_pl h hl o p y k hk, pl_pl h hl o p z k hk, pl_pl h hl o p u k hk]
end Kp

set_option Elab.async false
set_option linter.all false
set_option maxRecDepth 100000
set_option maxHeartbeats 8000000
set_option autoImplicit false
/-! S7: what is alike; trees, deep things. -/
namespace Kp
open PySem PySem.Spec PyProof.Rows L2
def eqC (c d : Option Cell) (S : Sto) : R Bool := match c, d with
  | some (.lst a), some (.lst b) => if (SeqAt.shaped (.list a) && SeqAt.shaped (.list b)) = true then .ok (PyData.eqv (.list a) (.list b)) S else .no
  | some (.dct a), some (.dct b) => if (dshB a && dshB b) = true then .ok (dqP a b) S else .no
  | _, _ => .no
@[simp] theorem e_loc {i j : Nat} {S : Sto} : eqV' (.loc i) (.loc j) S = eqC S[i]? S[j]? S := by
  unfold eqV'
  dsimp only
  unfold dqV datV dcvV eqC
  dsimp only
  cases S[i]? with
  | none => rfl
  | some c => cases c with
    | lst a => cases S[j]? with
      | none => rfl
      | some d => cases d <;> rfl
    | dct a => cases S[j]? with
      | none => rfl
      | some d => cases d <;> rfl
theorem eqC_l {a b : List P} {S : Sto} (h : (SeqAt.shaped (.list a) && SeqAt.shaped (.list b)) = true) : eqC (some (.lst a)) (some (.lst b)) S = .ok (PyData.eqv (.list a) (.list b)) S := if_pos h
@[simp] theorem eqC_d {a b : List (Key × P)} {S : Sto} (h : (dshB a && dshB b) = true) : eqC (some (.dct a)) (some (.dct b)) S = .ok (dqP a b) S := if_pos h
@[simp] theorem eqC_0 {S : Sto} : eqC (some (.lst [])) (some (.lst [])) S = .ok true S := id rfl
@[simp] theorem e_bool {a b : Bool} {S : Sto} : eqV' (.p (.bool a)) (.p (.bool b)) S = .ok (decide (a = b)) S := by
  cases a <;> cases b <;> rfl
@[simp] theorem e_none {S : Sto} : eqV' (.p .none) (.p .none) S = .ok true S := id rfl
/-- plain data of so much depth -/
def Pl : Nat → P → Prop
  | 0, _ => False
  | d + 1, .tuple xs => xs.length ≤ 1000000 ∧ ∀ x ∈ xs, Pl d x
  | _ + 1, .int _ => True
  | _ + 1, .str _ => True
  | _ + 1, .bool _ => True
  | _ + 1, .none => True
  | _ + 1, _ => False
def SAlike (c : Cf) (d : Nat) : Prop := ∀ (x : P) (S : Sto), Pl d x → c [.p x, .p x] S = .ok (.p (.bool true)) S
section
variable {cl : Cl} {k d : Nat}
theorem alike_1 {xs : List P} {S : Sto} (ih : SAlike (cl k) d) (hx : ∀ x ∈ xs, Pl d x) : ∀ x ∈ List.range xs.length, ∀ acc : List P, evC cl (.one (.not' (.call k (.cons (.ix (.v 0) (.v 2)) (.cons (.ix (.v 1) (.v 2)) .nil))))) (List.set [some (.p (.tuple xs)), some (.p (.tuple xs)), none] 2 (some (.p (.int (0 + (x : Int)))))) (S ++ [.lst acc]) = .ok false (S ++ [.lst acc]) ∧ (false = true → ev cl (.v 2) (List.set [some (.p (.tuple xs)), some (.p (.tuple xs)), none] 2 (some (.p (.int (0 + (x : Int)))))) (S ++ [.lst acc]) = .ok (.p .none) (S ++ [.lst acc])) := by
  intro j hj acc
  have hj' : j < xs.length := List.mem_range.mp hj
  have e := ih xs[j] (S ++ [.lst acc]) (hx _ (List.getElem_mem hj'))
  simp [ix_n, List.getElem?_eq_getElem hj', e]
theorem alike_2 {xs : List P} {S : Sto} (hl : xs.length ≤ 1000000) (hh : ∀ x ∈ List.range xs.length, ∀ acc : List P, evC cl (.one (.not' (.call k (.cons (.ix (.v 0) (.v 2)) (.cons (.ix (.v 1) (.v 2)) .nil))))) (List.set [some (.p (.tuple xs)), some (.p (.tuple xs)), none] 2 (some (.p (.int (0 + (x : Int)))))) (S ++ [.lst acc]) = .ok false (S ++ [.lst acc]) ∧ (false = true → ev cl (.v 2) (List.set [some (.p (.tuple xs)), some (.p (.tuple xs)), none] 2 (some (.p (.int (0 + (x : Int)))))) (S ++ [.lst acc]) = .ok (.p .none) (S ++ [.lst acc]))) : compL (ev cl (.v 2)) (evC cl (.one (.not' (.call k (.cons (.ix (.v 0) (.v 2)) (.cons (.ix (.v 1) (.v 2)) .nil)))))) 2 [] S.length ((List.range xs.length).map fun (k : Nat) => PV.p (.int (0 + k))) [some (.p (.tuple xs)), some (.p (.tuple xs)), none] (S ++ [.lst []]) = .ok () (S ++ [.lst []]) := by
  have c := compL_ok (el := ev cl (.v 2)) (tst := evC cl (.one (.not' (.call k (.cons (.ix (.v 0) (.v 2)) (.cons (.ix (.v 1) (.v 2)) .nil)))))) (i := 2) (w := []) (S0 := S) (en := [some (.p (.tuple xs)), some (.p (.tuple xs)), none])
    (fun (k : Nat) => PV.p (.int (0 + k))) (fun _ => false) (fun _ => .none) (fun q hq => absurd hq List.not_mem_nil) (fun q hq => absurd hq List.not_mem_nil) (List.range xs.length) [] hh (by simp; omega)
  have hf : (List.range xs.length).filter (fun _ => false) = [] := List.filter_eq_nil_iff.mpr (by simp)
  rw [hf] at c
  exact c
theorem alike_t {xs : List P} {S : Sto} (hb : ((xs.length : Nat) : Int) < 4611686018427387904) (c : compL (ev cl (.v 2)) (evC cl (.one (.not' (.call k (.cons (.ix (.v 0) (.v 2)) (.cons (.ix (.v 1) (.v 2)) .nil)))))) 2 [] S.length ((List.range xs.length).map fun (k : Nat) => PV.p (.int (0 + k))) [some (.p (.tuple xs)), some (.p (.tuple xs)), none] (S ++ [.lst []]) = .ok () (S ++ [.lst []])) : runD cl 2 3 (m_l_alike k) [.p (.tuple xs), .p (.tuple xs)] S = .ok (.p (.bool true)) S := by
  unfold m_l_alike
  simp at c
  simp [runD, hb, c]
theorem alike_i {i : Int} {S : Sto} : runD cl 2 3 (m_l_alike k) [.p (.int i), .p (.int i)] S = .ok (.p (.bool true)) S := by
  unfold m_l_alike
  simp [runD]
theorem alike_s {i : Str} {S : Sto} : runD cl 2 3 (m_l_alike k) [.p (.str i), .p (.str i)] S = .ok (.p (.bool true)) S := by
  unfold m_l_alike
  simp [runD]
theorem alike_b {i : Bool} {S : Sto} : runD cl 2 3 (m_l_alike k) [.p (.bool i), .p (.bool i)] S = .ok (.p (.bool true)) S := by
  unfold m_l_alike
  simp [runD]
theorem alike_n {S : Sto} : runD cl 2 3 (m_l_alike k) [.p .none, .p .none] S = .ok (.p (.bool true)) S := by
  unfold m_l_alike
  simp [runD]
theorem len_b {n : Nat} (h : n ≤ 1000000) : (n : Int) < 4611686018427387904 := by omega
theorem alike_ok (ih : SAlike (cl k) d) : SAlike (runD cl 2 3 (m_l_alike k)) (d + 1) := fun x S hx => match x, hx with
  | .tuple _, hx => alike_t (len_b hx.1) (alike_2 hx.1 (alike_1 ih hx.2))
  | .int _, _ => alike_i
  | .str _, _ => alike_s
  | .bool _, _ => alike_b
  | .none, _ => alike_n
  | .list _, hx => hx.elim
  | .dict _, hx => hx.elim
end
end Kp

set_option Elab.async false
set_option linter.all false
set_option maxRecDepth 100000
set_option maxHeartbeats 8000000
set_option autoImplicit false
/-! S7: what is alike; trees, deep things. -/
namespace Kp
open PySem PySem.Spec PyProof.Rows L2
/-! trees -/
@[simp] def Th.vs : Th → Prop
  | .var n => 0 ≤ n ∧ n < 100
  | .nm _ => True | .n0 _ => True
  | .n1 _ a => a.vs
  | .n2 _ a b => a.vs ∧ b.vs
  | .n3 _ a b c => a.vs ∧ b.vs ∧ c.vs
  | .rc a b c d => a.vs ∧ b.vs ∧ c.vs ∧ d.vs
theorem nv_pos : ∀ t : Th, 1 ≤ t.nv
  | .var _ => by simp
  | .nm _ => by simp
  | .n0 _ => by simp
  | .n1 _ a => by have := nv_pos a; simp only [Th.nv]; omega
  | .n2 _ a b => by have := nv_pos a; simp only [Th.nv]; omega
  | .n3 _ a b c => by have := nv_pos a; simp only [Th.nv]; omega
  | .rc a b c d => by have := nv_pos a; simp only [Th.nv]; omega
theorem dp_pos (t : Th) : 1 ≤ t.dp := by cases t <;> simp
section
variable {cl : Cl} {S : Sto}
theorem tree_ok {c : Int} : ∃ t : Th, t.vs ∧ t.dp ≤ 154 ∧ t.nv ≤ 5000 ∧ runD cl 1 3 m_l_tree [.p (.int c)] S = .ok (.p t.e) S := by
  unfold m_l_tree
  obtain ⟨m, hm, hm2⟩ : ∃ m : Nat, 4 + c / 9 % 5 = (m : Int) ∧ m ≤ 8 := ⟨(4 + c / 9 % 5).toNat, by omega, by omega⟩
  obtain ⟨en', S', e1, e2⟩ := for_inv (tg := .nm 2) (w := []) (b := exss cl (.cons (.ift (.and' (.cmp .eq (.v 2) (.c (.int 3))) (.cmp .eq (.bin .mod (.v 0) (.c (.int 2))) (.c (.int 0)))) (.cons (.asg (.nm 1) (.tup (.cons (.c (.str "fun")) (.cons (.tup (.cons (.c (.str "nat")) .nil)) (.cons (.v 1) .nil)))))
    .nil) (.cons (.asg (.nm 1) (.tup (.cons (.c (.str "app")) (.cons (.v 1) (.cons (.v 1) .nil)))))
    .nil))
    .nil)) (fun r en S1 => S1 = S ∧ ∃ (l : List Nat) (t : Th) (q : Option PV), r = l.map (fun (k : Nat) => PV.p (.int (0 + k))) ∧ en = [some (.p (.int c)), some (.p t.e), q] ∧ t.vs ∧ t.dp + l.length ≤ 9 ∧ t.nv * 2 ^ l.length ≤ 256)
    (its := (List.range m).map fun (k : Nat) => PV.p (.int (0 + k))) (en := [some (.p (.int c)), some (.p (Th.var (c % 9)).e), none]) (S := S)
    (fun _ _ _ _ => rfl)
    (fun x r en S1 h => by
      obtain ⟨rfl, l, t, q, hr, rfl, hv, hd, hn⟩ := h
      cases l with
      | nil => cases hr
      | cons k l =>
        simp only [List.map_cons, List.cons.injEq] at hr
        obtain ⟨rfl, rfl⟩ := hr
        have p := nv_pos t
        have p2 := dp_pos t
        simp only [List.length_cons, Nat.pow_succ] at hd hn
        by_cases c1 : k = 3
        · by_cases c2 : c % 2 = 0
          · have hn2 : (1 + t.nv) * 2 ^ l.length ≤ 256 := by
              have : (1 + t.nv) * 2 ^ l.length ≤ (t.nv * 2) * 2 ^ l.length := Nat.mul_le_mul_right _ (by omega)
              have e : t.nv * 2 * 2 ^ l.length = t.nv * (2 ^ l.length * 2) := by rw [Nat.mul_assoc, Nat.mul_comm 2]
              omega
            exact ⟨_, [some (.p (.int c)), some (.p (Th.n2 .fun' (.n0 .nat) t).e), some (.p (.int (0 + k)))], _, rfl, .inl (by simp [c1, c2, Th.e]), rfl, l, .n2 .fun' (.n0 .nat) t, _, rfl, rfl, ⟨trivial, hv⟩, by simp only [Th.dp]; omega, hn2⟩
          · have hn2 : (t.nv + t.nv) * 2 ^ l.length ≤ 256 := by
              have e : (t.nv + t.nv) * 2 ^ l.length = t.nv * (2 ^ l.length * 2) := by rw [← Nat.mul_two, Nat.mul_assoc, Nat.mul_comm 2]
              omega
            exact ⟨_, [some (.p (.int c)), some (.p (Th.n2 .app t t).e), some (.p (.int (0 + k)))], _, rfl, .inl (by simp [c1, c2, Th.e]), rfl, l, .n2 .app t t, _, rfl, rfl, ⟨hv, hv⟩, by simp only [Th.dp]; omega, hn2⟩
        · have c1 : ¬ ((k : Int) = 3) := by omega
          have hn2 : (t.nv + t.nv) * 2 ^ l.length ≤ 256 := by
            have e : (t.nv + t.nv) * 2 ^ l.length = t.nv * (2 ^ l.length * 2) := by rw [← Nat.mul_two, Nat.mul_assoc, Nat.mul_comm 2]
            omega
          exact ⟨_, [some (.p (.int c)), some (.p (Th.n2 .app t t).e), some (.p (.int (0 + k)))], _, rfl, .inl (by simp [c1, Th.e]), rfl, l, .n2 .app t t, _, rfl, rfl, ⟨hv, hv⟩, by simp only [Th.dp]; omega, hn2⟩)
    ⟨rfl, List.range m, .var (c % 9), none, rfl, rfl, ⟨by omega, by omega⟩, by simp; omega, by
      simp only [Th.nv, List.length_range, Nat.one_mul]
      exact Nat.pow_le_pow_right (by decide) hm2⟩
  obtain ⟨rfl, l, t, q, hr, rfl, hv, hd, hn⟩ := e2
  have hl : l = [] := by
    cases l with
    | nil => rfl
    | cons _ _ => cases hr
  subst hl
  refine ⟨t, hv, by omega, by simp at hn; omega, ?_⟩
  have hb : ((m : Nat) : Int) < 4611686018427387904 := by omega
  simp [Th.e] at e1
  simp [runD, hm, hb, e1]
end
end Kp

set_option Elab.async false
set_option linter.all false
set_option maxRecDepth 100000
set_option maxHeartbeats 8000000
set_option autoImplicit false
/-! S8: deep things. -/
namespace Kp
open PySem PySem.Spec PyProof.Rows L2
def deepB : Sms := (.cons (.asg (.nm 5) (.bin .mod (.bin .add (.bin .add (.bin .fdiv (.v 0) (.c (.int 7))) (.bin .mul (.v 4) (.v 4))) (.bin .fdiv (.v 4) (.c (.int 3)))) (.c (.int 6))))
    (.cons (.asg (.nm 6) (.tup (.cons (.c (.str "var")) (.cons (.bin .mod (.bin .add (.v 0) (.v 4)) (.c (.int 30))) .nil))))
    (.cons (.ift (.cmp .lt (.v 3) (.bin .add (.c (.int 20)) (.bin .mod (.bin .fdiv (.v 0) (.c (.int 45))) (.c (.int 18))))) (.cons (.asg (.nm 3) (.bin .add (.v 3) (.ix (.lst (.cons (.c (.int 1)) (.cons (.c (.int 1)) (.cons (.c (.int 2)) (.cons (.c (.int 3)) (.cons (.c (.int 2)) (.cons (.c (.int 3)) .nil))))))) (.v 5))))
    (.cons (.ift (.cmp .eq (.v 5) (.c (.int 0))) (.cons (.asg (.nm 2) (.tup (.cons (.c (.str "fun")) (.cons (.v 1) (.cons (.v 2) .nil)))))
    .nil) (.cons (.ift (.cmp .eq (.v 5) (.c (.int 1))) (.cons (.asg (.nm 2) (.tup (.cons (.c (.str "app")) (.cons (.v 6) (.cons (.v 2) .nil)))))
    .nil) (.cons (.ift (.cmp .eq (.v 5) (.c (.int 2))) (.cons (.asg (.nm 2) (.tup (.cons (.c (.str "rec")) (.cons (.tup (.cons (.c (.str "same")) (.cons (.v 1) (.cons (.v 2) (.cons (.v 6) .nil))))) (.cons (.tup (.cons (.c (.str "zero")) .nil)) (.cons (.v 6) (.cons (.tup (.cons (.c (.str "var")) (.cons (.v 4) .nil))) .nil)))))))
    .nil) (.cons (.ift (.cmp .eq (.v 5) (.c (.int 3))) (.cons (.asg (.nm 2) (.tup (.cons (.c (.str "carry")) (.cons (.tup (.cons (.c (.str "all")) (.cons (.v 1) (.cons (.tup (.cons (.c (.str "same")) (.cons (.v 1) (.cons (.v 6) (.cons (.v 2) .nil))))) .nil)))) (.cons (.v 6) (.cons (.tup (.cons (.c (.str "zero")) .nil)) .nil))))))
    .nil) (.cons (.ift (.cmp .eq (.v 5) (.c (.int 4))) (.cons (.asg (.nm 2) (.tup (.cons (.c (.str "first")) (.cons (.tup (.cons (.c (.str "fun")) (.cons (.v 1) (.cons (.v 2) .nil)))) .nil))))
    .nil) (.cons (.asg (.nm 2) (.tup (.cons (.c (.str "never")) (.cons (.tup (.cons (.c (.str "some")) (.cons (.v 1) (.cons (.tup (.cons (.c (.str "same")) (.cons (.v 1) (.cons (.v 6) (.cons (.v 2) .nil))))) .nil)))) (.cons (.v 6) .nil)))))
    .nil))
    .nil))
    .nil))
    .nil))
    .nil))
    .nil)) .nil)
    .nil)))
def deepT (c : Int) (k : Nat) (t : Th) (w : Int) : Th := if w = 0 then Th.n2 .fun' (Th.n0 .nat) t else if w = 1 then Th.n2 .app (Th.var ((c + k) % 30)) t else if w = 2 then Th.rc (Th.n3 .same (Th.n0 .nat) t (Th.var ((c + k) % 30))) (Th.n0 .zero) (Th.var ((c + k) % 30)) (Th.var k) else if w = 3 then Th.n3 .carry (Th.n2 .all (Th.n0 .nat) (Th.n3 .same (Th.n0 .nat) (Th.var ((c + k) % 30)) t)) (Th.var ((c + k) % 30)) (Th.n0 .zero) else if w = 4 then Th.n1 .first (Th.n2 .fun' (Th.n0 .nat) t) else Th.n2 .never (Th.n2 .some (Th.n0 .nat) (Th.n3 .same (Th.n0 .nat) (Th.var ((c + k) % 30)) t)) (Th.var ((c + k) % 30))
def deepW (c : Int) (k : Nat) : Int := (c / 7 + (k : Int) * k + (k : Int) / 3) % 6
@[simp] theorem ix_5 {α : Type} {xs : List α} : ixP xs 5 = xs[5]? := id rfl
section
variable {cl : Cl} {S : Sto}
theorem deep_step {c z : Int} {k : Nat} {t : Th} {w s : Option PV} (hk : k < 38) : ∃ (t' : Th) (z' : Int) (w' s' : Option PV) (cs : Sto), (t' = t ∨ t' = deepT c k t (deepW c k)) ∧
    exss cl deepB [some (.p (.int c)), some (.p (Th.n0 .nat).e), some (.p t.e), some (.p (.int z)), some (.p (.int (0 + (k : Int)))), w, s] S =
      .nx [some (.p (.int c)), some (.p (Th.n0 .nat).e), some (.p t'.e), some (.p (.int z')), some (.p (.int (0 + (k : Int)))), w', s'] (S ++ cs) := by
  have hm : CMulB (k : Int) (k : Int) = true := cmul_r ⟨by omega, by omega⟩
  have h0 : 0 ≤ deepW c k := by unfold deepW; omega
  have h1 : deepW c k < 6 := by unfold deepW; omega
  have e : (c / 7 + (k : Int) * k + (k : Int) / 3) % 6 = deepW c k := rfl
  unfold deepB
  by_cases hz : z < 20 + c / 45 % 18
  · have hc : deepW c k = 0 ∨ deepW c k = 1 ∨ deepW c k = 2 ∨ deepW c k = 3 ∨ deepW c k = 4 ∨ deepW c k = 5 := by omega
    rcases hc with h | h | h | h | h | h
    · refine ⟨deepT c k t 0, z + 1, some (.p (.int 0)), some (.p (Th.var ((c + k) % 30)).e), [.lst [.int 1, .int 1, .int 2, .int 3, .int 2, .int 3]], .inr (by rw [h]), ?_⟩
      simp [hm, e, h, hz, Th.e, deepT]
    · refine ⟨deepT c k t 1, z + 1, some (.p (.int 1)), some (.p (Th.var ((c + k) % 30)).e), [.lst [.int 1, .int 1, .int 2, .int 3, .int 2, .int 3]], .inr (by rw [h]), ?_⟩
      simp [hm, e, h, hz, Th.e, deepT]
    · refine ⟨deepT c k t 2, z + 2, some (.p (.int 2)), some (.p (Th.var ((c + k) % 30)).e), [.lst [.int 1, .int 1, .int 2, .int 3, .int 2, .int 3]], .inr (by rw [h]), ?_⟩
      simp [hm, e, h, hz, Th.e, deepT]
    · refine ⟨deepT c k t 3, z + 3, some (.p (.int 3)), some (.p (Th.var ((c + k) % 30)).e), [.lst [.int 1, .int 1, .int 2, .int 3, .int 2, .int 3]], .inr (by rw [h]), ?_⟩
      simp [hm, e, h, hz, Th.e, deepT]
    · refine ⟨deepT c k t 4, z + 2, some (.p (.int 4)), some (.p (Th.var ((c + k) % 30)).e), [.lst [.int 1, .int 1, .int 2, .int 3, .int 2, .int 3]], .inr (by rw [h]), ?_⟩
      simp [hm, e, h, hz, Th.e, deepT]
    · refine ⟨deepT c k t 5, z + 3, some (.p (.int 5)), some (.p (Th.var ((c + k) % 30)).e), [.lst [.int 1, .int 1, .int 2, .int 3, .int 2, .int 3]], .inr (by rw [h]), ?_⟩
      simp [hm, e, h, hz, Th.e, deepT]
  · refine ⟨t, z, some (.p (.int (deepW c k))), some (.p (Th.var ((c + k) % 30)).e), [], .inl rfl, ?_⟩
    simp [hm, e, hz, Th.e]
theorem deepT_ok {c w : Int} {k : Nat} {t : Th} (hk : k < 38) (hv : t.vs) : (deepT c k t w).vs ∧ (deepT c k t w).dp ≤ t.dp + 3 ∧ (deepT c k t w).nv ≤ t.nv + 5 := by
  have p := dp_pos t
  unfold deepT
  split
  · exact ⟨⟨trivial, hv⟩, by simp only [Th.dp]; omega, by simp only [Th.nv]; omega⟩
  · split
    · exact ⟨⟨⟨by omega, by omega⟩, hv⟩, by simp only [Th.dp]; omega, by simp only [Th.nv]; omega⟩
    · split
      · exact ⟨⟨⟨trivial, hv, by omega, by omega⟩, trivial, ⟨by omega, by omega⟩, by omega, by omega⟩, by simp only [Th.dp]; omega, by simp only [Th.nv]; omega⟩
      · split
        · exact ⟨⟨⟨trivial, trivial, ⟨by omega, by omega⟩, hv⟩, ⟨by omega, by omega⟩, trivial⟩, by simp only [Th.dp]; omega, by simp only [Th.nv]; omega⟩
        · split
          · exact ⟨⟨trivial, hv⟩, by simp only [Th.dp]; omega, by simp only [Th.nv]; omega⟩
          · exact ⟨⟨⟨trivial, trivial, ⟨by omega, by omega⟩, hv⟩, by omega, by omega⟩, by simp only [Th.dp]; omega, by simp only [Th.nv]; omega⟩
theorem deep_loop {c : Int} : ∀ (l : List Nat) (t : Th) (z : Int) (q w s : Option PV) (S : Sto), (∀ k ∈ l, k < 38) → t.vs → ∃ (t' : Th) (z' : Int) (q' w' s' : Option PV) (cs : Sto), t'.vs ∧ t'.dp ≤ t.dp + 3 * l.length ∧ t'.nv ≤ t.nv + 5 * l.length ∧
    forL (.nm 4) [] (exss cl deepB) (l.map fun (k : Nat) => PV.p (.int (0 + (k : Int)))) [some (.p (.int c)), some (.p (Th.n0 .nat).e), some (.p t.e), some (.p (.int z)), q, w, s] S =
      .nx [some (.p (.int c)), some (.p (Th.n0 .nat).e), some (.p t'.e), some (.p (.int z')), q', w', s'] (S ++ cs)
  | [], t, z, q, w, s, S, _, hv => ⟨t, z, q, w, s, [], hv, by simp, by simp, by simp⟩
  | k :: l, t, z, q, w, s, S, hl, hv => by
    have hk := hl k List.mem_cons_self
    obtain ⟨t1, z1, w1, s1, c1, h1, e1⟩ := deep_step (cl := cl) (S := S) (c := c) (z := z) (t := t) (w := w) (s := s) hk
    have b : t1.vs ∧ t1.dp ≤ t.dp + 3 ∧ t1.nv ≤ t.nv + 5 := by
      rcases h1 with rfl | rfl
      · exact ⟨hv, by omega, by omega⟩
      · exact deepT_ok hk hv
    obtain ⟨t2, z2, q2, w2, s2, c2, a1, a2, a3, e2⟩ := deep_loop l t1 z1 (some (.p (.int (0 + (k : Int))))) w1 s1 (S ++ c1) (fun x hx => hl x (List.mem_cons_of_mem _ hx)) b.1
    refine ⟨t2, z2, q2, w2, s2, c1 ++ c2, a1, by simp only [List.length_cons]; omega, by simp only [List.length_cons]; omega, ?_⟩
    rw [List.map_cons, for_cons0, tgV_n, kTg_]
    show (exss cl deepB [some (.p (.int c)), some (.p (Th.n0 .nat).e), some (.p t.e), some (.p (.int z)), some (.p (.int (0 + (k : Int)))), w, s] S).lp _ = _
    rw [e1, lp_nx, e2, List.append_assoc]
theorem deep_ok {c : Int} : ∃ t : Th, t.vs ∧ t.dp ≤ 154 ∧ t.nv ≤ 5000 ∧ runD cl 1 7 m_l_deep [.p (.int c)] S = .ok (.p t.e) S := by
  obtain ⟨t, z, q, w, s, cs, a1, a2, a3, e⟩ := deep_loop (cl := cl) (c := c) (List.range 38) (.var (c % 45)) 1 none none none S (fun k hk => List.mem_range.mp hk) ⟨by omega, by omega⟩
  simp only [Th.dp, Th.nv, List.length_range] at a2 a3
  refine ⟨t, a1, by omega, by omega, ?_⟩
  have e' := e
  unfold deepB at e'
  unfold m_l_deep
  simp [Th.e] at e'
  simp [runD, e']
end
end Kp

set_option Elab.async false
set_option linter.all false
set_option maxRecDepth 100000
set_option maxHeartbeats 8000000
set_option autoImplicit false
/-! S20: draws off a tape. -/
namespace Kp
open PySem PySem.Spec PyProof.Rows L2
def SDraw (c : List PV → Sto → R PV) : Prop := ∀ (ns : List Int) (S : Sto) (i k : Nat) (m : Int), S[i]? = some (.lst [.int k]) → k < 1000000000 → 0 < m →
  ∃ r : Int, 0 ≤ r ∧ r < m ∧ c [.p (.list (ns.map .int)), .loc i, .p (.int m)] S = .ok (.p (.int r)) (S.set i (.lst [.int ((k + 1 : Nat) : Int)]))
section
variable {cl : Cl}
theorem seed_loop {a b d : Option PV} {j : Nat} {xs : List P} (hx : ∀ x ∈ xs, pdB x x = true) : ∀ (l : List Int) (z : Int) (q : Option PV) (S : Sto), S[j]? = some (.lst xs) → ∃ (z' : Int) (q' : Option PV),
    forL (.nm 4) [(j, xs)] (exss cl (.cons (.asg (.nm 3) (.bin .mod (.bin .add (.bin .mul (.v 3) (.c (.int 131))) (.v 4)) (.c (.int 1000003)))) .nil)) (l.map fun i => PV.p (.int i)) [a, b, d, some (.p (.int z)), q] S = .nx [a, b, d, some (.p (.int z')), q'] S
  | [], z, q, S, h => ⟨z, q, by rw [List.map_nil, for_nil (by simp [h, wtC_ hx])]⟩
  | i :: l, z, q, S, h => by
    obtain ⟨z', q', r⟩ := seed_loop hx l ((z * 131 + i) % 1000003) (some (.p (.int i))) S h
    refine ⟨z', q', ?_⟩
    rw [List.map_cons, for_cons (by simp [h, wtC_ hx])]
    simp
    rw [r]
theorem draw_ok : SDraw (runD cl 3 5 m_l_draw) := by
  intro ns S i k m h hk hm
  have hi := has_of h
  unfold m_l_draw
  by_cases c : k < ns.length
  · have c' : ((k : Int) + 1) ≤ (ns.length : Int) := by omega
    have e1 : (k : Int) + 1 - 1 = (k : Int) := by omega
    refine ⟨ns[k] % m, Int.emod_nonneg _ (by omega), Int.emod_lt_of_pos _ hm, ?_⟩
    simp [runD, h, hi, c', e1, ix_n, c, b_mod hm]
  · have c' : ¬ ((k : Int) + 1) ≤ (ns.length : Int) := by omega
    have hmul : CMulB ((k : Int) + 1) ((k : Int) + 1) = true := cmul_r ⟨by omega, by omega⟩
    obtain ⟨z', q', r⟩ := seed_loop (cl := cl) (a := some (.p (.list (ns.map .int)))) (b := some (.loc i)) (d := some (.p (.int m))) (j := S.length) (xs := cutP (ns.map PyData.int) none (some 4))
      (fun x hx => by
        unfold cutP at hx
        have := List.mem_of_mem_drop (List.mem_of_mem_take hx)
        obtain ⟨y, _, rfl⟩ := List.mem_map.mp this
        exact pd_i) (cutP ns none (some 4)) (ns.length : Int) none ((S.set i (.lst [.int ((k : Int) + 1)])) ++ [.lst (cutP (ns.map PyData.int) none (some 4))]) (by simp)
    have hc : (cutP (ns.map PyData.int) none (some 4)).map PV.p = (cutP ns none (some 4)).map fun i => PV.p (.int i) := by
      unfold cutP
      rw [List.map_take, List.map_drop, List.map_map, List.map_take, List.map_drop, List.length_map]
      rfl
    have hm2 : CMulB (z' + 7) (((k : Int) + 1) * ((k : Int) + 1) + 48271) = true := cmul_r ⟨by have := Int.mul_nonneg (a := (k : Int) + 1) (b := (k : Int) + 1) (by omega) (by omega); omega, by
      have : ((k : Int) + 1) * ((k : Int) + 1) ≤ 1000000000 * 1000000000 := Int.mul_le_mul (by omega) (by omega) (by omega) (by omega)
      omega⟩
    refine ⟨(z' + 7) * (((k : Int) + 1) * ((k : Int) + 1) + 48271) % 1000003 % m, Int.emod_nonneg _ (by omega), Int.emod_lt_of_pos _ hm, ?_⟩
    simp [runD, h, hi, c', hc, r, hmul, hm2, b_mod hm, -List.map_map]
end
end Kp

set_option Elab.async false
set_option linter.all false
set_option maxRecDepth 100000
set_option maxHeartbeats 8000000
set_option autoImplicit false
/-! S21: names off a tape. -/
namespace Kp
open PySem PySem.Spec PyProof.Rows L2
@[simp] theorem lq : "q".length = 1 := by decide +kernel
theorem sok_app {a b : Str} : PyData.strOk (a ++ b) = (PyData.strOk a && PyData.strOk b) := by
  show (a.cps ++ b.cps).all _ = _
  rw [Array.all_append]
  rfl
theorem sok_cut {s : Str} {lo hi : Option Int} (h : PyData.strOk s = true) : PyData.strOk (cutS s lo hi) = true := by
  unfold PyData.strOk cutS at *
  rw [← Array.all_toList, List.all_eq_true] at *
  intro x hx
  refine h x ?_
  have hx : x ∈ cutP s.cps.toList lo hi := hx
  unfold cutP at hx
  exact List.mem_of_mem_drop (List.mem_of_mem_take hx)
theorem sok_q : PyData.strOk "q" = true := by decide +kernel
def SNamed (c : List PV → Sto → R PV) : Prop := ∀ s : Str, s.length ≤ 100 → ∃ s' : Str, s'.length ≤ 101 ∧ (PyData.strOk s = true → PyData.strOk s' = true) ∧ ∀ S : Sto, c [.p (.str s)] S = .ok (.p (.str s')) S
theorem named_ok {cl : Cl} : SNamed (runD cl 1 1 m_l_named) := by
  intro s h
  unfold m_l_named
  have h1 : s.length ≤ 1000000 := by omega
  have h2 : (cutS s none (some (-1))).length ≤ 100 := cutS_len h
  have h3 : (cutS s none (some (-1))).length + 1 ≤ 1000000 := by omega
  cases e1 : inT [.str "nat", .str "none", .str "all", .str "some", .str "same", .str "var", .str "fun", .str "app", .str "zero", .str "next", .str "rec", .str "like", .str "carry"] (.str s) with
  | true => exact ⟨cutS s none (some (-1)) ++ "q", by rw [app_len, len_of, lq]; omega, fun h => by rw [sok_app, sok_cut h, sok_q]; rfl, fun S => by simp [runD, -inT_cons, -inT_nil, e1, h1, h3]⟩
  | false =>
    cases e2 : inT [.str "never", .str "pair", .str "first", .str "second", .str "name"] (.str s) with
    | true => exact ⟨cutS s none (some (-1)) ++ "q", by rw [app_len, len_of, lq]; omega, fun h => by rw [sok_app, sok_cut h, sok_q]; rfl, fun S => by simp [runD, -inT_cons, -inT_nil, e1, e2, h1, h3]⟩
    | false => exact ⟨s, by omega, fun h => h, fun S => by simp [runD, -inT_cons, -inT_nil, e1, e2]⟩
end Kp

set_option Elab.async false
set_option linter.all false
set_option maxRecDepth 100000
set_option maxHeartbeats 8000000
set_option autoImplicit false
/-! S22: the pool of names. -/
namespace Kp
open PySem PySem.Spec PyProof.Rows L2
def abc : Str := "abcdefghijklmnopqrstuvwxyz"
theorem abc_cps : abc.cps.toList = (List.range 26).map (· + 97) := by decide +kernel
theorem abc_ix : ((List.range 26).all fun k => match Builtin.Str.occurrences abc ⟨#[k + 97]⟩ 0 abc.length 1 with
  | i :: _ => decide (i = k)
  | [] => false) = true := by decide +kernel
@[simp] theorem pow109 {S : Sto} : binV .pow (.p (.int 10)) (.p (.int 9)) S = .ok (.p (.int 1000000000)) S := by
  unfold binV
  dsimp only
  rw [if_pos (by decide)]
  rfl
/-- a word of small letters by their numbers -/
def wd (l : List Nat) : Str := ⟨(l.map (· + 97)).toArray⟩
theorem wd_len {l : List Nat} : (wd l).length = l.length := by
  show (List.toArray _).size = _
  simp
theorem abc_at {z : Int} (h0 : 0 ≤ z) (h : z < 26) : ixP abc.cps.toList z = some (z.toNat + 97) := by
  obtain ⟨n, rfl⟩ := Int.eq_ofNat_of_zero_le h0
  rw [ix_n, abc_cps, List.getElem?_map, List.getElem?_range (by omega)]
  rfl
theorem wd_at {l : List Nat} {n : Nat} (h : n < l.length) : ixP (wd l).cps.toList (n : Int) = some (l[n] + 97) := by
  rw [ix_n]
  show (List.toArray _).toList[n]? = _
  simp [h]
theorem abc_index {k : Nat} (h : k < 26) : ∃ r, Builtin.Str.occurrences abc ⟨#[k + 97]⟩ 0 abc.length 1 = k :: r := by
  have a := List.all_eq_true.mp abc_ix k (List.mem_range.mpr h)
  split at a
  · rename_i i r e
    have := of_decide_eq_true a
    subst this
    exact ⟨r, e⟩
  · cases a
theorem join_wd : ∀ {l : List Nat}, Str.join (Str.ofString "") (l.map fun k => (⟨#[k + 97]⟩ : Str)) = wd l
  | [] => rfl
  | [k] => rfl
  | k :: m :: l => by
    show (⟨#[k + 97]⟩ : Str) ++ Str.ofString "" ++ Str.join (Str.ofString "") ((m :: l).map fun k => (⟨#[k + 97]⟩ : Str)) = _
    rw [join_wd]
    have e : Str.ofString "" = ⟨#[]⟩ := by decide +kernel
    rw [e]
    show (⟨(#[k + 97] ++ #[]) ++ ((m :: l).map (· + 97)).toArray⟩ : Str) = ⟨((k :: m :: l).map (· + 97)).toArray⟩
    simp
end Kp

set_option Elab.async false
set_option linter.all false
set_option maxRecDepth 100000
set_option maxHeartbeats 8000000
set_option autoImplicit false
/-! S23: the pool of names, run. -/
namespace Kp
open PySem PySem.Spec PyProof.Rows L2
def ltr (c : Int) (k : Nat) : Nat := ((c / ((k : Int) + 1) + 5 * (k : Int)) % 26).toNat
theorem ltr_lt {c : Int} {k : Nat} : ltr c k < 26 := by unfold ltr; omega
section
variable {cl : Cl} {S : Sto}
theorem word_ok {a b q6 q7 q8 q9 q10 : Option PV} {c : Int} {n : Nat} (hn : n ≤ 12) :
    ev cl (.mth .join (.c (.str "")) (.cons (.comp 10 (.rng1 (.v 4)) .non (.ix (.v 2) (.bin .mod (.bin .add (.bin .fdiv (.v 3) (.bin .add (.v 10) (.c (.int 1)))) (.bin .mul (.c (.int 5)) (.v 10))) (.c (.int 26))))) .nil)) [a, b, some (.p (.str abc)), some (.p (.int c)), some (.p (.int (n : Int))), none, q6, q7, q8, q9, q10] S =
      .ok (.p (.str (wd ((List.range n).map (ltr c))))) (S ++ [.lst ((List.range n).map fun k => PyData.str ⟨#[ltr c k + 97]⟩)]) := by
  have hh : ∀ x ∈ List.range n, ∀ acc : List P, evC cl .non (List.set [a, b, some (.p (.str abc)), some (.p (.int c)), some (.p (.int (n : Int))), none, q6, q7, q8, q9, q10] 10 (some (.p (.int (0 + (x : Int)))))) (S ++ [.lst acc]) = .ok true (S ++ [.lst acc]) ∧
      (true = true → ev cl (.ix (.v 2) (.bin .mod (.bin .add (.bin .fdiv (.v 3) (.bin .add (.v 10) (.c (.int 1)))) (.bin .mul (.c (.int 5)) (.v 10))) (.c (.int 26)))) (List.set [a, b, some (.p (.str abc)), some (.p (.int c)), some (.p (.int (n : Int))), none, q6, q7, q8, q9, q10] 10 (some (.p (.int (0 + (x : Int)))))) (S ++ [.lst acc]) = .ok (.p (.str ⟨#[ltr c x + 97]⟩)) (S ++ [.lst acc])) := by
    intro x hx acc
    have hx' := List.mem_range.mp hx
    have d1 : 0 < (x : Int) + 1 ∧ (x : Int) + 1 < 1073741824 := by omega
    have e := abc_at (z := (c / ((x : Int) + 1) + 5 * (x : Int)) % 26) (by omega) (by omega)
    have hl : abc.length ≤ 1000000 := by decide +kernel
    refine ⟨by simp, fun _ => ?_⟩
    simp [b_fdiv d1, e, hl]
    rfl
  have cc := compL_ok (el := ev cl (.ix (.v 2) (.bin .mod (.bin .add (.bin .fdiv (.v 3) (.bin .add (.v 10) (.c (.int 1)))) (.bin .mul (.c (.int 5)) (.v 10))) (.c (.int 26))))) (tst := evC cl .non) (i := 10) (w := []) (S0 := S) (en := [a, b, some (.p (.str abc)), some (.p (.int c)), some (.p (.int (n : Int))), none, q6, q7, q8, q9, q10])
    (fun (k : Nat) => PV.p (.int (0 + (k : Int)))) (fun _ => true) (fun k => PyData.str ⟨#[ltr c k + 97]⟩) (fun q hq => absurd hq List.not_mem_nil) (fun q hq => absurd hq List.not_mem_nil) (List.range n) [] hh (by simp; omega)
  have ff : (List.range n).filter (fun _ => true) = List.range n := List.filter_eq_self.mpr fun _ _ => rfl
  rw [ff] at cc
  have hb : ((n : Nat) : Int) < 4611686018427387904 := by omega
  have e1 : evI cl (.rng1 (.v 4)) [a, b, some (.p (.str abc)), some (.p (.int c)), some (.p (.int (n : Int))), none, q6, q7, q8, q9, q10] S = .ok ((List.range n).map fun (k : Nat) => PV.p (.int (0 + (k : Int))), []) S := by simp [hb]
  have jm : ((List.range n).map fun k => PyData.str ⟨#[ltr c k + 97]⟩) = (((List.range n).map (ltr c)).map fun k => (⟨#[k + 97]⟩ : Str)).map PyData.str := by
    rw [List.map_map, List.map_map]; rfl
  have jl : ((((List.range n).map (ltr c)).map fun k => (⟨#[k + 97]⟩ : Str)).map (·.length)).sum + (((List.range n).map (ltr c)).map fun k => (⟨#[k + 97]⟩ : Str)).length * (Str.ofString "").length ≤ 16777216 := by
    have z : (Str.ofString "").length = 0 := by decide +kernel
    have s : ((((List.range n).map (ltr c)).map fun k => (⟨#[k + 97]⟩ : Str)).map (·.length)).sum = n := by
      rw [List.map_map, List.map_map]
      have : ((fun x : Str => x.length) ∘ (fun k => (⟨#[k + 97]⟩ : Str)) ∘ ltr c) = fun _ => 1 := rfl
      have h2 : ((List.range n).map (((fun x : Str => x.length) ∘ fun k => (⟨#[k + 97]⟩ : Str)) ∘ ltr c)) = List.replicate n 1 := by
        rw [List.eq_replicate_iff]
        exact ⟨by simp, fun b hb => by obtain ⟨y, _, rfl⟩ := List.mem_map.mp hb; rfl⟩
      rw [h2]; simp
    rw [s, z]; omega
  rw [ev_mth, ev_c, bind_ok, m_join, evs_cons, ev_comp, e1, bind_ok, kComp_]
  dsimp only
  rw [cc, bind_ok, kCmpD_, bind_ok, kEvs_, evs_nil, bind_ok, kEvs2_, bind_ok, mt_jn]
  have hat : (S ++ [Cell.lst ([] ++ (List.range n).map fun k => PyData.str ⟨#[ltr c k + 97]⟩)])[S.length]? = some (.lst ((((List.range n).map (ltr c)).map fun k => (⟨#[k + 97]⟩ : Str)).map PyData.str)) := by
    rw [List.nil_append, jm]; simp
  rw [hat, jnC_ jl]
  have jw : Txt.join (Str.ofString "") (((List.range n).map (ltr c)).map fun k => (⟨#[k + 97]⟩ : Str)) = wd ((List.range n).map (ltr c)) := (StrLaws.glued_eq_join _ _).trans join_wd
  rw [jw, List.nil_append]
end
end Kp

set_option Elab.async false
set_option linter.all false
set_option maxRecDepth 100000
set_option maxHeartbeats 8000000
set_option autoImplicit false
/-! S24: the pool, run. -/
namespace Kp
open PySem PySem.Spec PyProof.Rows L2
def SPool (c : List PV → Sto → R PV) : Prop := ∀ (ns : List Int) (S : Sto) (i k : Nat), S[i]? = some (.lst [.int k]) → k < 1000000 →
  ∃ (ws : List Str), ws.length = 3 ∧ (∀ w ∈ ws, w.length ≤ 101) ∧ c [.p (.list (ns.map .int)), .loc i] S = .ok (.loc S.length) (S.set i (.lst [.int ((k + 4 : Nat) : Int)]) ++ [.lst (ws.map .str)])
/-- what a tape's names become -/
theorem named_all {c : List PV → Sto → R PV} (hn : SNamed c) : ∀ ws : List Str, (∀ w ∈ ws, w.length ≤ 100) → ∃ f : Str → Str, ∀ w ∈ ws, (f w).length ≤ 101 ∧ (PyData.strOk w = true → PyData.strOk (f w) = true) ∧ ∀ S, c [.p (.str w)] S = .ok (.p (.str (f w))) S := by
  intro ws h
  refine ⟨fun w => if hw : w.length ≤ 100 then Classical.choose (hn w hw) else w, fun w hw => ?_⟩
  have hl := h w hw
  simp only [dif_pos hl]
  exact Classical.choose_spec (hn w hl)
section
variable {cl : Cl} {kn kd : Nat}
theorem names_comp {en : En} {S : Sto} {j : Nat} {ws : List Str} (f : Str → Str) (hf : ∀ w ∈ ws, ∀ S, cl kn [.p (.str w)] S = .ok (.p (.str (f w))) S) (hl : ws.length ≤ 3) (hj : S[j]? = some (.lst (ws.map .str))) (h8 : en[8]? = some (some (.loc j))) (h9 : en.length = 11) :
    ev cl (.comp 9 (.val (.v 8)) .non (.call kn (.cons (.v 9) .nil))) en S = .ok (.loc S.length) (S ++ [.lst ((ws.map f).map .str)]) := by
  have hh : ∀ x ∈ ws, ∀ acc : List P, evC cl .non (List.set en 9 (some (.p (.str x)))) (S ++ [.lst acc]) = .ok true (S ++ [.lst acc]) ∧ (true = true → ev cl (.call kn (.cons (.v 9) .nil)) (List.set en 9 (some (.p (.str x)))) (S ++ [.lst acc]) = .ok (.p (.str (f x))) (S ++ [.lst acc])) := by
    intro x hx acc
    have e : (List.set en 9 (some (PV.p (.str x))))[9]? = some (some (.p (.str x))) := List.getElem?_set_self (by omega)
    exact ⟨by simp, fun _ => by rw [ev_call, evs_cons, ev_v, e, oV_s, bind_ok, kEvs_, evs_nil, bind_ok, kEvs2_, bind_ok, hf x hx]⟩
  have c := compL_ok (el := ev cl (.call kn (.cons (.v 9) .nil))) (tst := evC cl .non) (i := 9) (w := [(j, ws.map PyData.str)]) (S0 := S) (en := en) (fun (x : Str) => PV.p (.str x)) (fun _ => true) (fun x => PyData.str (f x)) (fun q hq x hx => by
      have : q = (j, ws.map PyData.str) := by simpa using hq
      subst this
      obtain ⟨y, _, rfl⟩ := List.mem_map.mp hx
      exact pd_s) (fun q hq => by
      have : q = (j, ws.map PyData.str) := by simpa using hq
      subst this
      exact hj) ws [] hh (by simp; omega)
  have ff : ws.filter (fun _ => true) = ws := List.filter_eq_self.mpr fun _ _ => rfl
  rw [ff] at c
  have e1 : evI cl (.val (.v 8)) en S = .ok (ws.map fun x => PV.p (.str x), [(j, ws.map PyData.str)]) S := by
    rw [evI_val, ev_v, h8, oV_s, bind_ok, val_loc, hj, valC_, List.map_map]
    rfl
  rw [ev_comp, e1, bind_ok, kComp_]
  dsimp only
  rw [c, bind_ok, kCmpD_, List.map_map]
  rfl
end
end Kp

set_option Elab.async false
set_option linter.all false
set_option maxRecDepth 100000
set_option maxHeartbeats 8000000
set_option autoImplicit false
/-! S25: the tape as a cell of its own; the pool. -/
namespace Kp
open PySem PySem.Spec PyProof.Rows L2
theorem asg_nx {cl : Cl} {e : Ex} {i : Nat} {en : En} {S S' : Sto} {v : PV} {r : Sms} (h : ev cl e en S = .ok v S') : exss cl (.cons (.asg (.nm i) e) r) en S = exss cl r (en.set i (some v)) S' := by
  simp [h]
theorem ret_rt {cl : Cl} {e : Ex} {en : En} {S S' : Sto} {v : PV} {r : Sms} (h : ev cl e en S = .ok v S') : exss cl (.cons (.ret e) r) en S = .rt v S' := by
  simp [h]
def tp (k : Nat) : Cell := .lst [.int (k : Int)]
def SDraw2 (c : Cf) : Prop := ∀ (ns : List Int) (S : Sto) (i k : Nat) (m : Int), S[i]? = some (tp k) → k < 1000000000 → 0 < m →
  ∃ r : Int, 0 ≤ r ∧ r < m ∧ c [.p (.list (ns.map .int)), .loc i, .p (.int m)] S = .ok (.p (.int r)) (S.set i (tp (k + 1)))
theorem draw2_ok {cl : Cl} : SDraw2 (runD cl 3 5 m_l_draw) := fun ns S i k m h hk hm => draw_ok ns S i k m h hk hm
def SPool2 (c : Cf) : Prop := ∀ (ns : List Int) (S : Sto) (i k : Nat), S[i]? = some (tp k) → k < 1000000 →
  ∃ (ws : List Str), ws.length = 3 ∧ (∀ w ∈ ws, w.length ≤ 101 ∧ PyData.strOk w = true) ∧ c [.p (.list (ns.map .int)), .loc i] S = .ok (.loc S.length) (S.set i (tp (k + 4)) ++ [.lst (ws.map .str)])
section
variable {cl : Cl} {kn kd : Nat}
theorem pool_ok (hn : SNamed (cl kn)) (hd : SDraw2 (cl kd)) : SPool2 (runD cl 2 11 (m_l_pool kn kd)) := by
  intro ns S i k h hk
  have hi := has_of h
  obtain ⟨r1, a1, b1, e1⟩ := hd ns S i k 1000000000 h (by omega) (by decide)
  obtain ⟨r2, a2, b2, e2⟩ := hd ns (S.set i (tp (k + 1))) i (k + 1) 12 (set_at hi) (by omega) (by decide)
  obtain ⟨n, hn1⟩ : ∃ n : Nat, 1 + r2 = n := ⟨(1 + r2).toNat, by omega⟩
  have n1 : 1 ≤ n := by omega
  have n2 : n ≤ 12 := by omega
  rw [List.set_set] at e2
  have hi2 : Has (S.set i (tp (k + 1 + 1))) i := has_set hi
  obtain ⟨r3, a3, b3, e3⟩ := hd ns (S.set i (tp (k + 1 + 1)) ++ [.lst ((List.range n).map fun q => PyData.str ⟨#[ltr r1 q + 97]⟩)]) i (k + 1 + 1) n (by rw [at_old hi2]; exact set_at hi) (by omega) (by omega)
  rw [set_old hi2, List.set_set] at e3
  have hi3 : Has (S.set i (tp (k + 1 + 1 + 1))) i := has_set hi
  obtain ⟨r4, a4, b4, e4⟩ := hd ns (S.set i (tp (k + 1 + 1 + 1)) ++ [.lst ((List.range n).map fun q => PyData.str ⟨#[ltr r1 q + 97]⟩)]) i (k + 1 + 1 + 1) 25 (by rw [at_old hi3]; exact set_at hi) (by omega) (by decide)
  rw [set_old hi3, List.set_set] at e4
  obtain ⟨q3, rfl⟩ := Int.eq_ofNat_of_zero_le a3
  have l3 : q3 < ((List.range n).map (ltr r1)).length := by simp; omega
  have w3 := wd_at l3
  have lt3 : ((List.range n).map (ltr r1))[q3] < 26 := by simp [ltr_lt]
  obtain ⟨rr, oc⟩ := abc_index lt3
  generalize ((List.range n).map (ltr r1))[q3] = c3 at *
  have z0 : (0 : Int) ≤ ((c3 : Int) + 1 + r4) % 26 := by omega
  have z1 : ((c3 : Int) + 1 + r4) % 26 < 26 := by omega
  have ab := abc_at z0 z1
  have o4b : (((c3 : Int) + 1 + r4) % 26).toNat + 97 < 1114112 := by omega
  generalize (((c3 : Int) + 1 + r4) % 26).toNat + 97 = o4 at *
  have la : abc.length ≤ 1000000 := by decide +kernel
  have so4 : PyData.strOk (⟨#[o4]⟩ : Str) = true := by
    unfold PyData.strOk
    simp [o4b]
  have sW : PyData.strOk (wd ((List.range n).map (ltr r1))) = true := by
    unfold PyData.strOk wd
    rw [← Array.all_toList, List.all_eq_true]
    intro x hx
    simp only [List.map_map, List.mem_map] at hx
    obtain ⟨y, _, rfl⟩ := hx
    have := ltr_lt (c := r1) (k := y)
    simp only [Function.comp, decide_eq_true_eq]
    omega
  have lw0 : (wd ((List.range n).map (ltr r1))).length = n := by rw [wd_len]; simp
  generalize hW : wd ((List.range n).map (ltr r1)) = W at *
  have lw : W.length ≤ 1000000 := by omega
  have c1 := cutS_len (s := W) (lo := none) (hi := some (q3 : Int)) (n := 12) (by omega)
  have c2 := cutS_len (s := W) (lo := some ((q3 : Int) + 1)) (hi := none) (n := 12) (by omega)
  have s1 : (⟨#[o4]⟩ : Str).length = 1 := rfl
  obtain ⟨f, hf⟩ := named_all hn [W, cutS W none (some (q3 : Int)) ++ ⟨#[o4]⟩ ++ cutS W (some ((q3 : Int) + 1)) none, cutS (⟨#[o4]⟩ ++ W) none (some 12)] (by
    intro w hw
    simp only [List.mem_cons, List.not_mem_nil, or_false] at hw
    rcases hw with rfl | rfl | rfl
    · omega
    · rw [app_len, app_len, s1]; omega
    · exact cutS_len (by rw [app_len, s1]; omega))
  refine ⟨[W, cutS W none (some (q3 : Int)) ++ ⟨#[o4]⟩ ++ cutS W (some ((q3 : Int) + 1)) none, cutS (⟨#[o4]⟩ ++ W) none (some 12)].map f, rfl, fun w hw => ?_, ?_⟩
  · obtain ⟨u, hu, rfl⟩ := List.mem_map.mp hw
    refine ⟨(hf u hu).1, (hf u hu).2.1 ?_⟩
    simp only [List.mem_cons, List.not_mem_nil, or_false] at hu
    rcases hu with rfl | rfl | rfl
    · exact sW
    · rw [sok_app, sok_app, sok_cut sW, so4, sok_cut sW]; rfl
    · exact sok_cut (by rw [sok_app, so4, sW]; rfl)
  · refine Eq.trans (if_pos rfl) ?_
    show endV S.length (exss cl (m_l_pool kn kd) [some (.p (.list (ns.map .int))), some (.loc i), none, none, none, none, none, none, none, none, none] S) = _
    unfold m_l_pool
    rw [asg_nx (v := .p (.str abc)) (S' := S) (by simp; rfl)]
    dsimp only [List.set]
    rw [asg_nx (v := .p (.int r1)) (S' := S.set i (tp (k + 1))) (by simp [e1])]
    dsimp only [List.set]
    rw [asg_nx (v := .p (.int (n : Int))) (S' := S.set i (tp (k + 1 + 1))) (by simp [e2, hn1])]
    dsimp only [List.set]
    rw [asg_nx (word_ok n2), hW]
    dsimp only [List.set]
    rw [asg_nx (v := .p (.int (q3 : Int))) (S' := S.set i (tp (k + 1 + 1 + 1)) ++ [.lst ((List.range n).map fun q => PyData.str ⟨#[ltr r1 q + 97]⟩)]) (by
      rw [ev_call]; simp only [evs_cons, evs_nil, ev_v, kEvs_, kEvs2_, bind_ok, List.getElem?_cons_zero, List.getElem?_cons_succ, oV_s]; exact e3)]
    dsimp only [List.set]
    rw [asg_nx (v := .p (.str ⟨#[o4]⟩)) (S' := S.set i (tp (k + 1 + 1 + 1 + 1)) ++ [.lst ((List.range n).map fun q => PyData.str ⟨#[ltr r1 q + 97]⟩)]) (by
      simp [mt_ix oc, w3, lw, e4, la, ab])]
    dsimp only [List.set]
    have l12 : (cutS W none (some (q3 : Int))).length + 1 ≤ 1000000 := by omega
    have l13 : (cutS W none (some (q3 : Int))).length + 1 + (cutS W (some ((q3 : Int) + 1)) none).length ≤ 1000000 := by omega
    have l14 : 1 + W.length ≤ 1000000 := by omega
    rw [asg_nx (v := .loc (S.length + 1)) (S' := S.set i (tp (k + 1 + 1 + 1 + 1)) ++ [.lst ((List.range n).map fun q => PyData.str ⟨#[ltr r1 q + 97]⟩)] ++ [.lst ([W, cutS W none (some (q3 : Int)) ++ ⟨#[o4]⟩ ++ cutS W (some ((q3 : Int) + 1)) none, cutS (⟨#[o4]⟩ ++ W) none (some 12)].map .str)]) (by
      simp [lw, l12, l13, l14, s1])]
    dsimp only [List.set]
    rw [ret_rt (names_comp (j := S.length + 1) f (fun w hw => (hf w hw).2.2) (by simp) (by simp) (by rfl) (by rfl))]
    simp
end
end Kp

set_option Elab.async false
set_option linter.all false
set_option maxRecDepth 100000
set_option maxHeartbeats 8000000
set_option autoImplicit false
/-! S26: things grown off a tape. -/
namespace Kp
open PySem PySem.Spec PyProof.Rows L2
structure Tape (S : Sto) (i j k : Nat) (ws : List Str) : Prop where
  t : S[i]? = some (tp k)
  p : S[j]? = some (.lst (ws.map .str))
  ne : i ≠ j
  w : ws.length = 3
  o : ∀ w ∈ ws, w.length ≤ 101 ∧ PyData.strOk w = true
theorem Tape.set {S : Sto} {i j k : Nat} {ws : List Str} (h : Tape S i j k ws) (k' : Nat) : Tape (S.set i (tp k')) i j k' ws :=
  ⟨set_at (has_of h.t), by rw [List.getElem?_set_ne h.ne]; exact h.p, h.ne, h.w, h.o⟩
theorem Tape.app {S : Sto} {i j k : Nat} {ws : List Str} (h : Tape S i j k ws) (l : Sto) : Tape (S ++ l) i j k ws :=
  ⟨by rw [at_old (has_of h.t)]; exact h.t, by rw [at_old (has_of h.p)]; exact h.p, h.ne, h.w, h.o⟩
abbrev Gd (ws : List Str) (b : Bool) (d : Nat) (t : Th) : Prop := t.ok (fun n => 0 ≤ n ∧ n < 100) (fun s => s ∈ ws) b d
/-- free variables below n -/
def Th.cb : Int → Th → Prop
  | n, .var m => m < n
  | _, .nm _ => True
  | _, .n0 _ => True
  | n, .n1 _ a => a.cb n
  | n, .n2 .all a b => a.cb n ∧ b.cb (n + 1)
  | n, .n2 .some a b => a.cb n ∧ b.cb (n + 1)
  | n, .n2 .fun' a b => a.cb n ∧ b.cb (n + 1)
  | n, .n2 _ a b => a.cb n ∧ b.cb n
  | n, .n3 .carry a b c => a.cb (n + 1) ∧ b.cb n ∧ c.cb n
  | n, .n3 _ a b c => a.cb n ∧ b.cb n ∧ c.cb n
  | n, .rc a b c d => a.cb (n + 1) ∧ b.cb n ∧ c.cb n ∧ d.cb n
theorem ok_mono {vp : Int → Prop} {np : Str → Prop} : ∀ (d : Nat) (t : Th) (b : Bool) (e : Nat), t.ok vp np b d → d ≤ e → t.ok vp np b e
  | 0, t, b, e, h, _ => by cases t <;> exact h.elim
  | d + 1, t, b, 0, h, l => absurd l (by omega)
  | d + 1, .var n, b, e + 1, h, l => h
  | d + 1, .nm n, b, e + 1, h, l => h
  | d + 1, .n0 w, b, e + 1, h, l => by cases w <;> exact h
  | d + 1, .n1 w x, b, e + 1, h, l => ⟨h.1, ok_mono d _ _ e h.2 (by omega)⟩
  | d + 1, .n2 w x y, b, e + 1, h, l => by
    cases w <;> exact ⟨h.1, ok_mono d _ _ e h.2.1 (by omega), ok_mono d _ _ e h.2.2 (by omega)⟩
  | d + 1, .n3 w x y z, b, e + 1, h, l => by
    cases w <;> exact ⟨h.1, ok_mono d _ _ e h.2.1 (by omega), ok_mono d _ _ e h.2.2.1 (by omega), ok_mono d _ _ e h.2.2.2 (by omega)⟩
  | d + 1, .rc x y z u, b, e + 1, h, l => ⟨h.1, ok_mono d _ _ e h.2.1 (by omega), ok_mono d _ _ e h.2.2.1 (by omega), ok_mono d _ _ e h.2.2.2.1 (by omega), ok_mono d _ _ e h.2.2.2.2 (by omega)⟩
/-- the draws that are enough -/
def nb : Nat → Nat
  | 0 => 10
  | d + 1 => 4 * nb d + 10
def SLeaf (c : Cf) : Prop := ∀ (ns : List Int) (S : Sto) (i j k : Nat) (ws : List Str) (near : Int), Tape S i j k ws → 0 ≤ near → near ≤ 100 → k + 3 ≤ 1000000 →
  ∃ (t : Th) (k' : Nat), k' ≤ k + 2 ∧ Gd ws true 2 t ∧ t.cb near ∧ c [.p (.list (ns.map .int)), .loc i, .p (.int near), .loc j] S = .ok (.p t.e) (S.set i (tp k'))
/-- grown, of so much depth drawn, levels at most l -/
def SGen (c : Cf) (b : Bool) (d l B : Nat) : Prop := ∀ (ns : List Int) (S : Sto) (i j k : Nat) (ws : List Str) (deep near : Int), Tape S i j k ws → deep ≤ d → 0 ≤ near → near + d ≤ 95 → k + B ≤ 1000000 →
  ∃ (t : Th) (k' : Nat), k' ≤ k + B ∧ Gd ws b l t ∧ t.cb near ∧ c [.p (.list (ns.map .int)), .loc i, .p (.int deep), .p (.int near), .loc j] S = .ok (.p t.e) (S.set i (tp k'))
def SGenW (c : Cf) (b : Bool) (d l B : Nat) (W : Int) : Prop := ∀ (ns : List Int) (S : Sto) (i j k : Nat) (ws : List Str) (deep near way : Int), Tape S i j k ws → 1 ≤ deep → deep ≤ d → 0 ≤ near → near + d ≤ 95 → k + B ≤ 1000000 → 0 ≤ way → way < W →
  ∃ (t : Th) (k' : Nat), k' ≤ k + B ∧ Gd ws b l t ∧ t.cb near ∧ c [.p (.list (ns.map .int)), .loc i, .p (.int deep), .p (.int near), .loc j, .p (.int way)] S = .ok (.p t.e) (S.set i (tp k'))
section
variable {cl : Cl} {kd kt kk kf kp kl kn kp' ks kle d l : Nat}
theorem leaf_ok (hd : SDraw2 (cl kd)) : SLeaf (runD cl 4 5 (m_l_leaf kd)) := by
  intro ns S i j k ws near h h0 h1 hk
  obtain ⟨r, r0, r1, e⟩ := hd ns S i k 6 h.t (by omega) (by decide)
  have h' := h.set (k + 1)
  unfold m_l_leaf
  by_cases c0 : r = 0
  · exact ⟨.n0 .zero, k + 1, by omega, rfl, trivial, by simp [runD, e, c0, Th.e]⟩
  by_cases c1 : r = 1
  · obtain ⟨q, q0, q1, e2⟩ := hd ns _ i (k + 1) 3 h'.t (by omega) (by decide)
    rw [List.set_set] at e2
    obtain ⟨w, hw, ew⟩ := ix_mem (xs := ws) q0 (by have := h.w; omega)
    have ep : (S.set i (tp (k + 1 + 1)))[j]? = some (.lst (ws.map .str)) := (h.set (k + 1 + 1)).p
    have ew2 : ixP (ws.map PyData.str) q = some (.str w) := by
      obtain ⟨n, rfl⟩ := Int.eq_ofNat_of_zero_le q0
      rw [ix_n] at ew ⊢
      rw [List.getElem?_map, ew]; rfl
    exact ⟨.nm w, k + 1 + 1, by omega, ⟨rfl, hw⟩, trivial, by simp [runD, e, c1, e2, ep, ew2, Th.e]⟩
  by_cases c2 : near = 0
  · exact ⟨.n1 .next (.n0 .zero), k + 1, by omega, ⟨rfl, rfl⟩, trivial, by simp [runD, e, c0, c1, c2, Th.e]⟩
  by_cases c3 : r = 2
  · obtain ⟨q, q0, q1, e2⟩ := hd ns _ i (k + 1) near h'.t (by omega) (by omega)
    rw [List.set_set] at e2
    exact ⟨.var q, k + 1 + 1, by omega, ⟨rfl, by omega, by omega⟩, (show (q : Int) < near by first | omega | (split at q1 <;> omega)), by simp [runD, e, c2, c3, e2, Th.e]⟩
  · obtain ⟨q, q0, q1, e2⟩ := hd ns _ i (k + 1) (if 3 < near then 3 else near) h'.t (by omega) (by split <;> omega)
    rw [List.set_set] at e2
    have : q < 100 := by split at q1 <;> omega
    exact ⟨.var q, k + 1 + 1, by omega, ⟨rfl, by omega, by omega⟩, (show (q : Int) < near by first | omega | (split at q1 <;> omega)), by simp [runD, e, c0, c1, c2, c3, e2, Th.e]⟩
theorem kind_ok (hd : SDraw2 (cl kd)) (ih : ∀ d', d = d' + 1 → SGen (cl kk) false d' (2 * d' + 2) (nb d') ∧ SGen (cl kt) true d' (2 * d' + 2) (nb d')) : SGen (runD cl 5 8 (m_l_kind kt kk kd)) false d (2 * d + 2) (nb d) := by
  intro ns S i j k ws deep near h hdp h0 h1 hk
  have hb : 10 ≤ nb d := by cases d <;> unfold nb <;> omega
  obtain ⟨r, r0, r1, e⟩ := hd ns S i k 7 h.t (by omega) (by decide)
  have h' := h.set (k + 1)
  have hi := has_of h.t
  unfold m_l_kind
  by_cases c : deep < 1 ∨ r < 3
  · have z : r % 3 = 0 ∨ r % 3 = 1 ∨ r % 3 = 2 := by omega
    by_cases c1 : deep < 1
    · rcases z with z | z | z
      · exact ⟨.n0 .nat, k + 1, by omega, rfl, trivial, by simp [runD, e, c1, z, Th.e]⟩
      · exact ⟨.n0 .nat, k + 1, by omega, rfl, trivial, by simp [runD, e, c1, z, Th.e]⟩
      · exact ⟨.n0 .none, k + 1, by omega, rfl, trivial, by simp [runD, e, c1, z, Th.e]⟩
    · have c2 : r < 3 := by omega
      rcases z with z | z | z
      · exact ⟨.n0 .nat, k + 1, by omega, rfl, trivial, by simp [runD, e, c1, c2, z, Th.e]⟩
      · exact ⟨.n0 .nat, k + 1, by omega, rfl, trivial, by simp [runD, e, c1, c2, z, Th.e]⟩
      · exact ⟨.n0 .none, k + 1, by omega, rfl, trivial, by simp [runD, e, c1, c2, z, Th.e]⟩
  · have c1 : ¬ deep < 1 := fun z => c (.inl z)
    have c2 : ¬ r < 3 := fun z => c (.inr z)
    obtain ⟨d', rfl⟩ : ∃ d', d = d' + 1 := ⟨d - 1, by omega⟩
    obtain ⟨ihk, iht⟩ := ih d' rfl
    have nbe : nb (d' + 1) = 4 * nb d' + 10 := rfl
    by_cases c3 : r < 5
    · obtain ⟨a, ka, la, ga, za, ea⟩ := ihk ns _ i j (k + 1) ws (deep - 1) near h' (by omega) h0 (by omega) (by omega)
      rw [List.set_set] at ea
      obtain ⟨b, kb, lb, gb, zb, eb⟩ := ihk ns _ i j ka ws (deep - 1) (near + 1) ((h.set ka).app [.lst [.str "all", .str "some"]]) (by omega) (by omega) (by omega) (by omega)
      have hia : Has (S.set i (tp ka)) i := has_set hi
      rw [set_old hia, List.set_set] at eb
      have z : r - 3 = 0 ∨ r - 3 = 1 := by omega
      rcases z with z | z
      · exact ⟨.n2 .all a b, kb, by omega, ⟨rfl, ok_mono _ _ _ _ ga (by omega), ok_mono _ _ _ _ gb (by omega)⟩, ⟨za, zb⟩, by simp [runD, e, c1, c2, c3, z, ea, eb, Th.e]⟩
      · exact ⟨.n2 .some a b, kb, by omega, ⟨rfl, ok_mono _ _ _ _ ga (by omega), ok_mono _ _ _ _ gb (by omega)⟩, ⟨za, zb⟩, by simp [runD, e, c1, c2, c3, z, ea, eb, Th.e]⟩
    · obtain ⟨a, ka, la, ga, za, ea⟩ := iht ns _ i j (k + 1) ws (deep - 1) near h' (by omega) h0 (by omega) (by omega)
      rw [List.set_set] at ea
      obtain ⟨b, kb, lb, gb, zb, eb⟩ := ihk ns _ i j ka ws (deep - 2) near (h.set ka) (by omega) (by omega) (by omega) (by omega)
      rw [List.set_set] at eb
      obtain ⟨u, ku, lu, gu, zu, eu⟩ := iht ns _ i j kb ws (deep - 1) near (h.set kb) (by omega) (by omega) (by omega) (by omega)
      rw [List.set_set] at eu
      exact ⟨.n3 .same b a u, ku, by omega, ⟨rfl, ok_mono _ _ _ _ gb (by omega), ok_mono _ _ _ _ ga (by omega), ok_mono _ _ _ _ gu (by omega)⟩, ⟨zb, za, zu⟩, by simp [runD, e, c1, c2, c3, ea, eb, eu, Th.e]⟩
/-! parts: for drawn depths from one on -/
def SGen1 (c : Cf) (b : Bool) (d l B : Nat) : Prop := ∀ (ns : List Int) (S : Sto) (i j k : Nat) (ws : List Str) (deep near : Int), Tape S i j k ws → 1 ≤ deep → deep ≤ ((d + 1 : Nat) : Int) → 0 ≤ near → near + ((d + 1 : Nat) : Int) ≤ 95 → k + B ≤ 1000000 →
  ∃ (t : Th) (k' : Nat), k' ≤ k + B ∧ Gd ws b l t ∧ t.cb near ∧ c [.p (.list (ns.map .int)), .loc i, .p (.int deep), .p (.int near), .loc j] S = .ok (.p t.e) (S.set i (tp k'))
theorem fun_ok (ihk : SGen (cl kk) false d l (nb d)) (iht : SGen (cl kt) true d l (nb d)) : SGen1 (runD cl 5 6 (m_l_fun kt kk)) true d (l + 1) (2 * nb d) := by
  intro ns S i j k ws deep near h hp hdp h0 h1 hk
  obtain ⟨a, ka, la, ga, za, ea⟩ := ihk ns _ i j k ws (deep - 2) near h (by omega) h0 (by omega) (by omega)
  obtain ⟨b, kb, lb, gb, zb, eb⟩ := iht ns _ i j ka ws (deep - 1) (near + 1) (h.set ka) (by omega) (by omega) (by omega) (by omega)
  rw [List.set_set] at eb
  unfold m_l_fun
  exact ⟨.n2 .fun' a b, kb, by omega, ⟨rfl, ga, gb⟩, ⟨za, zb⟩, by simp [runD, ea, eb, Th.e]⟩
theorem like_ok (ihk : SGen (cl kk) false d l (nb d)) (iht : SGen (cl kt) true d l (nb d)) : SGen1 (runD cl 5 6 (m_l_like kt kk)) true d (l + 1) (2 * nb d) := by
  intro ns S i j k ws deep near h hp hdp h0 h1 hk
  obtain ⟨a, ka, la, ga, za, ea⟩ := ihk ns _ i j k ws (deep - 2) near h (by omega) h0 (by omega) (by omega)
  obtain ⟨b, kb, lb, gb, zb, eb⟩ := iht ns _ i j ka ws (deep - 1) near (h.set ka) (by omega) (by omega) (by omega) (by omega)
  rw [List.set_set] at eb
  unfold m_l_like
  exact ⟨.n2 .like a b, kb, by omega, ⟨rfl, ga, gb⟩, ⟨za, zb⟩, by simp [runD, ea, eb, Th.e]⟩
theorem gpair_ok (ihk : SGen (cl kk) false d l (nb d)) (iht : SGen (cl kt) true d l (nb d)) : SGen1 (runD cl 5 7 (m_l_pair kt kk)) true d (l + 1) (3 * nb d) := by
  intro ns S i j k ws deep near h hp hdp h0 h1 hk
  obtain ⟨a, ka, la, ga, za, ea⟩ := ihk ns _ i j k ws (deep - 2) near h (by omega) h0 (by omega) (by omega)
  obtain ⟨b, kb, lb, gb, zb, eb⟩ := iht ns _ i j ka ws (deep - 1) near (h.set ka) (by omega) (by omega) (by omega) (by omega)
  rw [List.set_set] at eb
  obtain ⟨u, ku, lu, gu, zu, eu⟩ := iht ns _ i j kb ws (deep - 1) near (h.set kb) (by omega) (by omega) (by omega) (by omega)
  rw [List.set_set] at eu
  unfold m_l_pair
  exact ⟨.n3 .pair a b u, ku, by omega, ⟨rfl, ga, gb, gu⟩, ⟨za, zb, zu⟩, by simp [runD, ea, eb, eu, Th.e]⟩
theorem number_ok (hd : SDraw2 (cl kd)) (hl : 0 < l) (iht : SGen (cl kt) true d l (nb d)) : SGen1 (runD cl 5 5 (m_l_number kt kd)) true d (l + 1) (nb d + 1) := by
  intro ns S i j k ws deep near h hp hdp h0 h1 hk
  obtain ⟨r, r0, r1, e⟩ := hd ns S i k 3 h.t (by omega) (by decide)
  unfold m_l_number
  by_cases c : r = 0
  · exact ⟨.n0 .zero, k + 1, by omega, rfl, trivial, by simp [runD, e, c, Th.e]⟩
  · obtain ⟨b, kb, lb, gb, zb, eb⟩ := iht ns _ i j (k + 1) ws (deep - 1) near (h.set (k + 1)) (by omega) (by omega) (by omega) (by omega)
    rw [List.set_set] at eb
    exact ⟨.n1 .next b, kb, by omega, ⟨rfl, gb⟩, zb, by simp [runD, e, c, eb, Th.e]⟩
end
end Kp

set_option Elab.async false
set_option linter.all false
set_option maxRecDepth 100000
set_option maxHeartbeats 8000000
set_option autoImplicit false
/-! S27: things grown off a tape, on. -/
namespace Kp
open PySem PySem.Spec PyProof.Rows L2
section
variable {cl : Cl} {kd kt kk kf kp kl kn ks kle kpa d l : Nat}
theorem parted_ok (hd : SDraw2 (cl kd)) (ihk : SGen (cl kk) false d l (nb d)) (iht : SGen (cl kt) true d l (nb d)) (hf : SGen1 (cl kf) true d (l + 1) (2 * nb d)) (hl : SGen1 (cl kl) true d (l + 1) (2 * nb d)) (hp : SGen1 (cl kp) true d (l + 1) (3 * nb d)) (hn : SGen1 (cl kn) true d (l + 1) (nb d + 1)) :
    SGenW (runD cl 6 10 (m_l_parted kn kt kl kk kp kd kf)) true (d + 1) (l + 2) (4 * nb d + 5) 4 := by
  intro ns S i j k ws deep near way h hp1 hdp h0 h1 hk w0 w1
  have hi := has_of h.t
  unfold m_l_parted
  by_cases c0 : way = 0
  · obtain ⟨a, ka, la, ga, za, ea⟩ := hf ns _ i j k ws deep near h (by omega) (by omega) (by omega) (by omega) (by omega)
    obtain ⟨b, kb, lb, gb, zb, eb⟩ := iht ns _ i j ka ws (deep - 1) near (h.set ka) (by omega) (by omega) (by omega) (by omega)
    rw [List.set_set] at eb
    exact ⟨.n2 .app a b, kb, by omega, ⟨rfl, ok_mono _ _ _ _ ga (by omega), ok_mono _ _ _ _ gb (by omega)⟩, ⟨za, zb⟩, by simp [runD, c0, ea, eb, Th.e]⟩
  by_cases c1 : way = 1
  · obtain ⟨r, r0, r1, e⟩ := hd ns (S ++ [.lst [.str "first", .str "second"]]) i k 2 (h.app _).t (by omega) (by decide)
    rw [set_old hi] at e
    obtain ⟨a, ka, la, ga, za, ea⟩ := hp ns _ i j (k + 1) ws deep near ((h.set (k + 1)).app [.lst [.str "first", .str "second"]]) (by omega) (by omega) (by omega) (by omega) (by omega)
    have hi2 : Has (S.set i (tp (k + 1))) i := has_set hi
    rw [set_old hi2, List.set_set] at ea
    have z : r = 0 ∨ r = 1 := by omega
    rcases z with rfl | rfl
    · exact ⟨.n1 .first a, ka, by omega, ⟨rfl, ok_mono _ _ _ _ ga (by omega)⟩, za, by simp [runD, c1, ea, e, Th.e]⟩
    · exact ⟨.n1 .second a, ka, by omega, ⟨rfl, ok_mono _ _ _ _ ga (by omega)⟩, za, by simp [runD, c1, ea, e, Th.e]⟩
  obtain ⟨a, ka, la, ga, za, ea⟩ := ihk ns _ i j k ws (deep - 2) (near + 1) h (by omega) (by omega) (by omega) (by omega)
  obtain ⟨b, kb, lb, gb, zb, eb⟩ := iht ns _ i j ka ws (deep - 1) near (h.set ka) (by omega) (by omega) (by omega) (by omega)
  rw [List.set_set] at eb
  by_cases c2 : way = 2
  · obtain ⟨u, ku, lu, gu, zu, eu⟩ := hl ns _ i j kb ws deep near (h.set kb) (by omega) (by omega) (by omega) (by omega) (by omega)
    rw [List.set_set] at eu
    exact ⟨.n3 .carry a b u, ku, by omega, ⟨rfl, ok_mono _ _ _ _ ga (by omega), ok_mono _ _ _ _ gb (by omega), ok_mono _ _ _ _ gu (by omega)⟩, ⟨za, zb, zu⟩, by simp [runD, c2, ea, eb, eu, Th.e]⟩
  obtain ⟨u, ku, lu, gu, zu, eu⟩ := iht ns _ i j kb ws (deep - 1) near (h.set kb) (by omega) (by omega) (by omega) (by omega)
  rw [List.set_set] at eu
  obtain ⟨v, kv, lv, gv, zv, ev⟩ := hn ns _ i j ku ws deep near (h.set ku) (by omega) (by omega) (by omega) (by omega) (by omega)
  rw [List.set_set] at ev
  exact ⟨.rc a b u v, kv, by omega, ⟨rfl, ok_mono _ _ _ _ ga (by omega), ok_mono _ _ _ _ gb (by omega), ok_mono _ _ _ _ gu (by omega), ok_mono _ _ _ _ gv (by omega)⟩, ⟨za, zb, zu, zv⟩, by simp [runD, c0, c1, c2, ea, eb, eu, ev, Th.e]⟩
theorem still_ok (hd : SDraw2 (cl kd)) (ihk : SGen (cl kk) false d l (nb d)) (iht : SGen (cl kt) true d l (nb d)) (hf : SGen1 (cl kf) true d (l + 1) (2 * nb d)) (hl : SGen1 (cl kl) true d (l + 1) (2 * nb d)) (hp : SGen1 (cl kp) true d (l + 1) (3 * nb d)) :
    SGenW (runD cl 6 9 (m_l_still kk kt kd kl kp kf)) true (d + 1) (l + 2) (4 * nb d + 5) 10 := by
  intro ns S i j k ws deep near way h hp1 hdp h0 h1 hk w0 w1
  have hi := has_of h.t
  unfold m_l_still
  by_cases c0 : way < 2
  · obtain ⟨a, ka, la, ga, za, ea⟩ := iht ns _ i j k ws (deep - 1) near h (by omega) (by omega) (by omega) (by omega)
    exact ⟨.n1 .next a, ka, by omega, ⟨rfl, ok_mono _ _ _ _ ga (by omega)⟩, za, by simp [runD, c0, ea, Th.e]⟩
  by_cases c2 : way = 2
  · obtain ⟨a, ka, la, ga, za, ea⟩ := hf ns _ i j k ws deep near h (by omega) (by omega) (by omega) (by omega) (by omega)
    exact ⟨a, ka, by omega, ok_mono _ _ _ _ ga (by omega), za, by simp [runD, c2, ea]⟩
  by_cases c3 : way = 3
  · obtain ⟨a, ka, la, ga, za, ea⟩ := hp ns _ i j k ws deep near h (by omega) (by omega) (by omega) (by omega) (by omega)
    exact ⟨a, ka, by omega, ok_mono _ _ _ _ ga (by omega), za, by simp [runD, c3, ea]⟩
  by_cases c4 : way = 4
  · obtain ⟨a, ka, la, ga, za, ea⟩ := hl ns _ i j k ws deep near h (by omega) (by omega) (by omega) (by omega) (by omega)
    exact ⟨a, ka, by omega, ok_mono _ _ _ _ ga (by omega), za, by simp [runD, c4, ea]⟩
  obtain ⟨a, ka, la, ga, za, ea⟩ := iht ns _ i j k ws (deep - 1) near h (by omega) (by omega) (by omega) (by omega)
  by_cases c5 : way = 5
  · obtain ⟨b, kb, lb, gb, zb, eb⟩ := ihk ns _ i j ka ws (deep - 2) near (h.set ka) (by omega) (by omega) (by omega) (by omega)
    rw [List.set_set] at eb
    exact ⟨.n2 .never b a, kb, by omega, ⟨rfl, ok_mono _ _ _ _ gb (by omega), ok_mono _ _ _ _ ga (by omega)⟩, ⟨zb, za⟩, by simp [runD, c5, ea, eb, Th.e]⟩
  by_cases c6 : way = 6
  · obtain ⟨r, r0, r1, e⟩ := hd ns (S.set i (tp ka) ++ [.lst [.str "first", .str "second"]]) i ka 2 ((h.set ka).app _).t (by omega) (by decide)
    have hi2 : Has (S.set i (tp ka)) i := has_set hi
    rw [set_old hi2, List.set_set] at e
    have z : r = 0 ∨ r = 1 := by omega
    rcases z with rfl | rfl
    · exact ⟨.n1 .first a, ka + 1, by omega, ⟨rfl, ok_mono _ _ _ _ ga (by omega)⟩, za, by simp [runD, c6, ea, e, Th.e]⟩
    · exact ⟨.n1 .second a, ka + 1, by omega, ⟨rfl, ok_mono _ _ _ _ ga (by omega)⟩, za, by simp [runD, c6, ea, e, Th.e]⟩
  obtain ⟨b, kb, lb, gb, zb, eb⟩ := iht ns _ i j ka ws (deep - 1) near (h.set ka) (by omega) (by omega) (by omega) (by omega)
  rw [List.set_set] at eb
  by_cases c7 : way = 7
  · exact ⟨.n2 .app a b, kb, by omega, ⟨rfl, ok_mono _ _ _ _ ga (by omega), ok_mono _ _ _ _ gb (by omega)⟩, ⟨za, zb⟩, by simp [runD, c7, ea, eb, Th.e]⟩
  by_cases c8 : way = 8
  · obtain ⟨u, ku, lu, gu, zu, eu⟩ := ihk ns _ i j kb ws (deep - 2) (near + 1) (h.set kb) (by omega) (by omega) (by omega) (by omega)
    rw [List.set_set] at eu
    exact ⟨.n3 .carry u a b, ku, by omega, ⟨rfl, ok_mono _ _ _ _ gu (by omega), ok_mono _ _ _ _ ga (by omega), ok_mono _ _ _ _ gb (by omega)⟩, ⟨zu, za, zb⟩, by simp [runD, c8, ea, eb, eu, Th.e]⟩
  obtain ⟨u, ku, lu, gu, zu, eu⟩ := iht ns _ i j kb ws (deep - 1) near (h.set kb) (by omega) (by omega) (by omega) (by omega)
  rw [List.set_set] at eu
  obtain ⟨v, kv, lv, gv, zv, ev⟩ := ihk ns _ i j ku ws (deep - 2) (near + 1) (h.set ku) (by omega) (by omega) (by omega) (by omega)
  rw [List.set_set] at ev
  exact ⟨.rc v a b u, kv, by omega, ⟨rfl, ok_mono _ _ _ _ gv (by omega), ok_mono _ _ _ _ ga (by omega), ok_mono _ _ _ _ gb (by omega), ok_mono _ _ _ _ gu (by omega)⟩, ⟨zv, za, zb, zu⟩, by simp [runD, c0, c2, c3, c4, c5, c6, c7, c8, ea, eb, eu, ev, Th.e]⟩
theorem term_ok (hd : SDraw2 (cl kd)) (hle : SLeaf (cl kle)) (ih : ∀ d', d = d' + 1 → SGenW (cl kpa) true (d' + 1) (2 * d' + 4) (4 * nb d' + 5) 4 ∧ SGenW (cl ks) true (d' + 1) (2 * d' + 4) (4 * nb d' + 5) 10) : SGen (runD cl 5 6 (m_l_term ks kpa kle kd)) true d (2 * d + 2) (nb d) := by
  intro ns S i j k ws deep near h hdp h0 h1 hk
  have hb : 10 ≤ nb d := by cases d <;> unfold nb <;> omega
  obtain ⟨r, r0, r1, e⟩ := hd ns S i k 17 h.t (by omega) (by decide)
  have h' := h.set (k + 1)
  unfold m_l_term
  by_cases c : deep < 1 ∨ r < 3
  · obtain ⟨a, ka, la, ga, za, ea⟩ := hle ns _ i j (k + 1) ws near h' h0 (by omega) (by omega)
    rw [List.set_set] at ea
    by_cases c1 : deep < 1
    · exact ⟨a, ka, by omega, ok_mono _ _ _ _ ga (by omega), za, by simp [runD, e, c1, ea]⟩
    · have c2 : r < 3 := by omega
      exact ⟨a, ka, by omega, ok_mono _ _ _ _ ga (by omega), za, by simp [runD, e, c1, c2, ea]⟩
  · have c1 : ¬ deep < 1 := fun z => c (.inl z)
    have c2 : ¬ r < 3 := fun z => c (.inr z)
    obtain ⟨d', rfl⟩ : ∃ d', d = d' + 1 := ⟨d - 1, by omega⟩
    obtain ⟨ihp, ihs⟩ := ih d' rfl
    have nbe : nb (d' + 1) = 4 * nb d' + 10 := rfl
    by_cases c3 : r < 7
    · obtain ⟨a, ka, la, ga, za, ea⟩ := ihp ns _ i j (k + 1) ws deep near (r - 3) h' (by omega) (by omega) (by omega) (by omega) (by omega) (by omega) (by omega)
      rw [List.set_set] at ea
      exact ⟨a, ka, by omega, ok_mono _ _ _ _ ga (by omega), za, by simp [runD, e, c1, c2, c3, ea]⟩
    · obtain ⟨a, ka, la, ga, za, ea⟩ := ihs ns _ i j (k + 1) ws deep near (r - 7) h' (by omega) (by omega) (by omega) (by omega) (by omega) (by omega) (by omega)
      rw [List.set_set] at ea
      exact ⟨a, ka, by omega, ok_mono _ _ _ _ ga (by omega), za, by simp [runD, e, c1, c2, c3, ea]⟩
end
end Kp

set_option Elab.async false
set_option linter.all false
set_option maxRecDepth 100000
set_option maxHeartbeats 8000000
set_option autoImplicit false
/-! S28: kids, measures, a thing, a book. -/
namespace Kp
open PySem PySem.Spec PyProof.Rows L2
theorem vs_gs : ∀ t : Th, t.vs → -1 ≤ t.gs
  | .var n, h => by have := h.1; simp only [Th.gs]; omega
  | .nm _, _ => by simp
  | .n0 _, _ => by simp
  | .n1 _ a, h => vs_gs a h
  | .n2 _ a b, h => by have := vs_gs a h.1; have := vs_gs b h.2; simp only [Th.gs, mx]; split <;> omega
  | .n3 _ a b c, h => by have := vs_gs a h.1; have := vs_gs b h.2.1; have := vs_gs c h.2.2; simp only [Th.gs, mx]; repeat' split
                         all_goals omega
  | .rc a b c d, h => by have := vs_gs a h.1; have := vs_gs b h.2.1; have := vs_gs c h.2.2.1; have := vs_gs d h.2.2.2; simp only [Th.gs, mx]; repeat' split
                         all_goals omega
theorem kids_vs (t : Th) (h : t.vs) : ∀ k ∈ t.kids, k.vs := by
  cases t with
  | n1 w a => simpa using h
  | n2 w a b => obtain ⟨h1, h2⟩ := h; intro k hk; simp at hk; rcases hk with rfl | rfl <;> assumption
  | n3 w a b c => obtain ⟨h1, h2, h3⟩ := h; intro k hk; simp at hk; rcases hk with rfl | rfl | rfl <;> assumption
  | rc a b c d => obtain ⟨h1, h2, h3, h4⟩ := h; intro k hk; simp at hk; rcases hk with rfl | rfl | rfl | rfl <;> assumption
  | _ => simp
theorem ok_vs {ws : List Str} : ∀ (d : Nat) (t : Th) (b : Bool), Gd ws b d t → t.vs
  | 0, t, b, h => by cases t <;> exact h.elim
  | d + 1, .var n, b, h => h.2
  | d + 1, .nm n, b, h => trivial
  | d + 1, .n0 w, b, h => trivial
  | d + 1, .n1 w x, b, h => ok_vs d x _ h.2
  | d + 1, .n2 w x y, b, h => by cases w <;> exact ⟨ok_vs d x _ h.2.1, ok_vs d y _ h.2.2⟩
  | d + 1, .n3 w x y z, b, h => by cases w <;> exact ⟨ok_vs d x _ h.2.1, ok_vs d y _ h.2.2.1, ok_vs d z _ h.2.2.2⟩
  | d + 1, .rc x y z u, b, h => ⟨ok_vs d x _ h.2.1, ok_vs d y _ h.2.2.1, ok_vs d z _ h.2.2.2.1, ok_vs d u _ h.2.2.2.2⟩
theorem ok_dp {vp : Int → Prop} {np : Str → Prop} : ∀ (d : Nat) (t : Th) (b : Bool), t.ok vp np b d → t.dp ≤ d
  | 0, t, b, h => by cases t <;> exact h.elim
  | d + 1, .var n, b, h => by simp
  | d + 1, .nm n, b, h => by simp
  | d + 1, .n0 w, b, h => by simp
  | d + 1, .n1 w x, b, h => by have := ok_dp d x _ h.2; simp only [Th.dp]; omega
  | d + 1, .n2 w x y, b, h => by
    have q : (∃ c e, x.ok vp np c d ∧ y.ok vp np e d) := by cases w <;> exact ⟨_, _, h.2.1, h.2.2⟩
    obtain ⟨c, e, hx, hy⟩ := q
    have := ok_dp d x _ hx; have := ok_dp d y _ hy; simp only [Th.dp]; omega
  | d + 1, .n3 w x y z, b, h => by
    have q : (∃ c e f, x.ok vp np c d ∧ y.ok vp np e d ∧ z.ok vp np f d) := by cases w <;> exact ⟨_, _, _, h.2.1, h.2.2.1, h.2.2.2⟩
    obtain ⟨c, e, f, hx, hy, hz⟩ := q
    have := ok_dp d x _ hx; have := ok_dp d y _ hy; have := ok_dp d z _ hz; simp only [Th.dp]; omega
  | d + 1, .rc x y z u, b, h => by
    have := ok_dp d x _ h.2.1; have := ok_dp d y _ h.2.2.1; have := ok_dp d z _ h.2.2.2.1; have := ok_dp d u _ h.2.2.2.2; simp only [Th.dp]; omega
def SMeas (c : Cf) (d : Nat) : Prop := ∀ (t : Th) (S : Sto), t.dp ≤ d → t.vs → c [.p t.e] S = .ok (.p (.tuple [.int (t.sz : Int), .int (t.dp : Int), .int t.gs])) S
/-- too great, as a truth -/
def Th.tgb (t : Th) : Bool := decide (600 < t.sz) || (decide (40 < t.dp) || decide (99 < t.gs))
theorem tgb_iff {t : Th} : t.tgb = true ↔ t.tg := by
  unfold Th.tgb Th.tg
  simp
def SGreat2 (c : Cf) (d : Nat) : Prop := ∀ (t : Th) (S : Sto), t.dp ≤ d → t.vs → c [.p t.e] S = .ok (.p (.bool t.tgb)) S
section
variable {cl : Cl} {kk kf km kd kg kt d : Nat}
theorem kids2_ok : SKids (runD cl 1 1 m_l_kids_v2) := by
  intro t S
  unfold m_l_kids_v2
  cases t with
  | n1 w a => cases w <;> simp [runD]
  | n0 w => cases w <;> simp [runD]
  | n2 w a b => cases w <;> simp [runD]
  | n3 w a b c => cases w <;> simp [runD]
  | _ => simp [runD]
theorem meas_loop {th : Option PV} {xs : List P} (ih : SMeas (cl kf) d) (hx : ∀ x ∈ xs, pdB x x = true) {i : Nat} : ∀ (ks : List Th) (n dd mm : Int) (kd td : Option PV) (S : Sto), (∀ k ∈ ks, k.dp ≤ d) → (∀ k ∈ ks, k.vs) → S[i]? = some (.lst xs) →
    ∃ kd' td', forL (.nm 4) [(i, xs)] (exss cl (.cons (.asg (.nm 5) (.call kf (.cons (.v 4) .nil)))
    (.cons (.asg (.nm 1) (.bin .add (.v 1) (.ix (.v 5) (.c (.int 0)))))
    (.cons (.asg (.nm 2) (.bi .max2 (.cons (.v 2) (.cons (.ix (.v 5) (.c (.int 1))) .nil))))
    (.cons (.asg (.nm 3) (.bi .max2 (.cons (.v 3) (.cons (.ix (.v 5) (.c (.int 2))) .nil))))
    .nil))))) (ks.map fun k => PV.p k.e) [th, some (.p (.int n)), some (.p (.int dd)), some (.p (.int mm)), kd, td] S =
      .nx [th, some (.p (.int (n + ((ks.map Th.sz).sum : Nat)))), some (.p (.int ((ks.map fun k => (k.dp : Int)).foldl mx dd))), some (.p (.int ((ks.map Th.gs).foldl mx mm))), kd', td'] S
  | [], n, dd, mm, kd, td, S, _, _, h => ⟨kd, td, by rw [List.map_nil, for_nil (by simp [h, wtC_ hx])]; simp⟩
  | k :: ks, n, dd, mm, kd, td, S, hd, hv, h => by
    have e := ih k S (hd k List.mem_cons_self) (hv k List.mem_cons_self)
    obtain ⟨kd', td', r⟩ := meas_loop ih hx ks (n + k.sz) (mx dd k.dp) (mx mm k.gs) (some (.p k.e)) (some (.p (.tuple [.int (k.sz : Int), .int (k.dp : Int), .int k.gs]))) S (fun x hx => hd x (List.mem_cons_of_mem _ hx)) (fun x hx => hv x (List.mem_cons_of_mem _ hx)) h
    refine ⟨kd', td', ?_⟩
    rw [List.map_cons, for_cons (by simp [h, wtC_ hx])]
    unfold mx at r
    simp [e]
    simp at r
    rw [r]
    simp [Int.add_assoc, mx]
    exact ⟨rfl, rfl⟩
theorem meas_dp (t : Th) : (t.kids.map fun k => (k.dp : Int)).foldl mx 0 + 1 = (t.dp : Int) := by
  cases t with
  | n1 w a => simp [mx]; omega
  | n2 w a b => simp only [kids_4, List.map_cons, List.map_nil, List.foldl_cons, List.foldl_nil, mx, Th.dp]; repeat' split
                all_goals omega
  | n3 w a b c => simp only [kids_5, List.map_cons, List.map_nil, List.foldl_cons, List.foldl_nil, mx, Th.dp]; repeat' split
                  all_goals omega
  | rc a b c e => simp only [kids_6, List.map_cons, List.map_nil, List.foldl_cons, List.foldl_nil, mx, Th.dp]; repeat' split
                  all_goals omega
  | _ => simp
theorem meas_gs (t : Th) (h : ∀ n, t ≠ .var n) (hv : t.vs) : (t.kids.map Th.gs).foldl mx (-1) = t.gs := by
  cases t with
  | var n => exact absurd rfl (h n)
  | n1 w a => have := vs_gs a hv; simp [mx]; omega
  | n2 w a b => have := vs_gs a hv.1; have := vs_gs b hv.2; simp only [kids_4, List.map_cons, List.map_nil, List.foldl_cons, List.foldl_nil, mx, Th.gs]; repeat' split
                all_goals omega
  | n3 w a b c => have := vs_gs a hv.1; have := vs_gs b hv.2.1; have := vs_gs c hv.2.2; simp only [kids_5, List.map_cons, List.map_nil, List.foldl_cons, List.foldl_nil, mx, Th.gs]; repeat' split
                  all_goals omega
  | rc a b c e => have := vs_gs a hv.1; have := vs_gs b hv.2.1; have := vs_gs c hv.2.2.1; have := vs_gs e hv.2.2.2; simp only [kids_6, List.map_cons, List.map_nil, List.foldl_cons, List.foldl_nil, mx, Th.gs]; repeat' split
                  all_goals omega
  | _ => simp
theorem meas_ok (hk : SKids (cl kk)) (ih : SMeas (cl kf) d) : SMeas (runD cl 1 6 (m_l_measured kk kf)) (d + 1) := by
  intro t S hd hv
  have hk' := fun S => hk t S
  have hz := kids_sz t
  have hz2 : (1 : Int) + (((t.kids.map Th.sz).sum : Nat) : Int) = (t.sz : Int) := by omega
  have hdp := meas_dp t
  have hm : (t.kids.map Th.e).map PV.p = t.kids.map fun k => PV.p k.e := by rw [List.map_map]; rfl
  unfold m_l_measured
  by_cases hvv : ∃ n, t = .var n
  · obtain ⟨n, rfl⟩ := hvv
    simp at hk'
    simp [runD, hk', for_nil]
  · have hv' : ∀ n, t ≠ .var n := fun n e => hvv ⟨n, e⟩
    have nw := w_var t hv'
    have hg := meas_gs t hv' hv
    obtain ⟨kd', td', r⟩ := meas_loop (i := S.length) (th := some (.p t.e)) (xs := t.kids.map Th.e) ih (fun x hx => by obtain ⟨y, _, rfl⟩ := List.mem_map.mp hx; exact pd_e y) t.kids 1 0 (-1) none none (S ++ [.lst (t.kids.map Th.e)]) (kids_dp t hd) (kids_vs t hv) (by simp)
    rw [hz2, hg] at r
    simp only [runD]
    simp [hk', nw, -List.map_map, hm, r, hdp]
theorem great2_ok (hm : SMeas (cl km) d) : SGreat2 (runD cl 1 2 (m_l_great_v2 km)) d := by
  intro t S hd hv
  have e := fun S => hm t S hd hv
  unfold m_l_great_v2 Th.tgb
  by_cases c1 : 600 < t.sz
  · have c1' : (600 : Int) < t.sz := by omega
    simp [runD, e, c1, c1']
  · have c1' : ¬ (600 : Int) < t.sz := by omega
    by_cases c2 : 40 < t.dp
    · have c2' : (40 : Int) < t.dp := by omega
      simp [runD, e, c1, c1', c2, c2']
    · have c2' : ¬ (40 : Int) < t.dp := by omega
      simp [runD, e, c1, c1', c2, c2']
/-- a thing, of either sort, not too great -/
def SThing (c : Cf) (d : Nat) : Prop := ∀ (ns : List Int) (S : Sto) (i j k : Nat) (ws : List Str) (deep near : Int), Tape S i j k ws → deep ≤ d → 0 ≤ near → near + d ≤ 95 → k + (nb d + 1) ≤ 1000000 →
  ∃ (b : Bool) (t : Th) (k' : Nat), k' ≤ k + (nb d + 1) ∧ Gd ws b (2 * d + 2) t ∧ t.cb near ∧ ¬ t.tg ∧ c [.p (.list (ns.map .int)), .loc i, .p (.int deep), .p (.int near), .loc j] S = .ok (.p t.e) (S.set i (tp k'))
theorem thing_ok (hd : SDraw2 (cl kd)) (hk : SGen (cl kk) false d (2 * d + 2) (nb d)) (ht : SGen (cl kt) true d (2 * d + 2) (nb d)) (hg : SGreat2 (cl kg) (2 * d + 2)) : SThing (runD cl 5 6 (m_l_thing kg kd kk kt)) d := by
  intro ns S i j k ws deep near h hdp h0 h1 hb
  obtain ⟨r, r0, r1, e⟩ := hd ns S i k 5 h.t (by omega) (by decide)
  unfold m_l_thing
  by_cases c : r = 0
  · obtain ⟨a, ka, la, ga, za, ea⟩ := hk ns _ i j (k + 1) ws deep near (h.set (k + 1)) hdp h0 h1 (by omega)
    rw [List.set_set] at ea
    have eg := fun S => hg a S (ok_dp _ _ _ ga) (ok_vs _ _ _ ga)
    cases q : a.tgb with
    | true => exact ⟨true, .n0 .zero, ka, by omega, rfl, trivial, by unfold Th.tg; simp, by simp [runD, c, e, ea, eg, q, Th.e]⟩
    | false => exact ⟨false, a, ka, by omega, ga, za, (fun z => by rw [tgb_iff.mpr z] at q; cases q), by simp [runD, c, e, ea, eg, q]⟩
  · obtain ⟨a, ka, la, ga, za, ea⟩ := ht ns _ i j (k + 1) ws deep near (h.set (k + 1)) hdp h0 h1 (by omega)
    rw [List.set_set] at ea
    have eg := fun S => hg a S (ok_dp _ _ _ ga) (ok_vs _ _ _ ga)
    cases q : a.tgb with
    | true => exact ⟨true, .n0 .zero, ka, by omega, rfl, trivial, by unfold Th.tg; simp, by simp [runD, c, e, ea, eg, q, Th.e]⟩
    | false => exact ⟨true, a, ka, by omega, ga, za, (fun z => by rw [tgb_iff.mpr z] at q; cases q), by simp [runD, c, e, ea, eg, q]⟩
end
end Kp

set_option Elab.async false
set_option linter.all false
set_option maxRecDepth 100000
set_option maxHeartbeats 8000000
set_option autoImplicit false
/-! S29: books; the rules. -/
namespace Kp
open PySem PySem.Spec PyProof.Rows L2
abbrev Bk := List (Str × Th × Th)
def encB (bk : Bk) : List (Key × P) := bk.map fun q => (.inr q.1, .tuple [q.2.1.e, q.2.2.e])
def putB (bk : Bk) (w : Str) (v : Th × Th) : Bk := if (bk.any fun p => decide (p.1 = w)) = true then bk.map (fun p => if p.1 = w then (p.1, v) else p) else bk ++ [(w, v)]
def Bk.has (bk : Bk) (w : Str) : Bool := bk.any fun p => decide (p.1 = w)
theorem inr_dec {a k : Str} : decide ((Sum.inr a : Key) = Sum.inr k) = decide (a = k) := by
  by_cases h : a = k
  · subst h; simp
  · have : (Sum.inr a : Key) ≠ Sum.inr k := fun e => h (Sum.inr.inj e)
    simp [h, this]
theorem any_encB : ∀ {bk : Bk} {k : Str}, ((encB bk).any fun kv => decide (kv.1 = Sum.inr k)) = bk.any fun p => decide (p.1 = k)
  | [], k => rfl
  | (a, c) :: r, k => by
    show (decide ((Sum.inr a : Key) = Sum.inr k) || (encB r).any fun kv => decide (kv.1 = Sum.inr k)) = (decide (a = k) || r.any fun p => decide (p.1 = k))
    rw [any_encB, inr_dec]
theorem map_encB : ∀ {bk : Bk} {k : Str} {v : Th × Th}, ((encB bk).map fun kv => if kv.1 = Sum.inr k then (kv.1, PyData.tuple [v.1.e, v.2.e]) else kv) = encB (bk.map fun p => if p.1 = k then (p.1, v) else p)
  | [], k, v => rfl
  | (a, c) :: r, k, v => by
    show (if (Sum.inr a : Key) = Sum.inr k then (Sum.inr a, PyData.tuple [v.1.e, v.2.e]) else (Sum.inr a, PyData.tuple [c.1.e, c.2.e])) :: ((encB r).map fun kv => if kv.1 = Sum.inr k then (kv.1, PyData.tuple [v.1.e, v.2.e]) else kv) = encB ((if a = k then (a, v) else (a, c)) :: r.map fun p => if p.1 = k then (p.1, v) else p)
    rw [map_encB]
    by_cases h : a = k
    · subst h; simp [encB]
    · have : (Sum.inr a : Key) ≠ Sum.inr k := fun e => h (Sum.inr.inj e)
      simp [encB, h, this]
theorem puK_encB {bk : Bk} {k : Str} {v : Th × Th} : puK (encB bk) (.inr k) (.tuple [v.1.e, v.2.e]) = encB (putB bk k v) := by
  unfold puK putB
  rw [any_encB]
  split
  · exact map_encB
  · simp [encB]
theorem encB_len {bk : Bk} : (encB bk).length = bk.length := by unfold encB; rw [List.length_map]
theorem luK_encB : ∀ {bk : Bk} {k : Str}, luK (encB bk) (.inr k) = (bk.find? fun p => decide (p.1 = k)).map fun q => PyData.tuple [q.2.1.e, q.2.2.e]
  | [], k => rfl
  | (a, c) :: r, k => by
    show luK ((.inr a, .tuple [c.1.e, c.2.e]) :: encB r) (.inr k) = _
    rw [luK_cons, List.find?_cons, luK_encB]
    by_cases h : a = k
    · subst h; simp
    · have : (Sum.inr a : Key) ≠ Sum.inr k := fun e => h (Sum.inr.inj e)
      simp [h, this]
theorem luK_has {bk : Bk} {k : Str} : (luK (encB bk) (.inr k)).isSome = bk.has k := by
  rw [luK_encB, Option.isSome_map, Bool.eq_iff_iff]
  simp [Bk.has, List.find?_isSome]
theorem putB_len {bk : Bk} {k : Str} {v : Th × Th} : (putB bk k v).length ≤ bk.length + 1 := by
  unfold putB
  split <;> simp
theorem putB_has {bk : Bk} {k s : Str} {v : Th × Th} : (putB bk k v).has s = (bk.has s || decide (k = s)) := by
  have key : ∀ l : Bk, ((l.map fun p => if p.1 = k then (p.1, v) else p).any fun p => decide (p.1 = s)) = l.any fun p => decide (p.1 = s) := by
    intro l
    rw [List.any_map]
    congr 1
    funext p
    simp only [Function.comp]
    split <;> rfl
  unfold putB Bk.has
  split
  · rename_i h
    rw [key]
    by_cases e : k = s
    · subst e; simp [h]
    · simp [e]
  · simp [List.any_append]
structure BkOk (ws : List Str) (bk : Bk) : Prop where
  nd : (bk.map (·.1)).Nodup
  al : ∀ q ∈ bk, q.1 ∈ ws ∧ Gd ws false 4 q.2.1 ∧ q.2.1.cb 0 ∧ Gd ws true 6 q.2.2 ∧ q.2.2.cb 0
theorem putB_ok {ws : List Str} {bk : Bk} {w : Str} {a b : Th} (h : BkOk ws bk) (hw : w ∈ ws) (ga : Gd ws false 4 a) (za : a.cb 0) (gb : Gd ws true 6 b) (zb : b.cb 0) : BkOk ws (putB bk w (a, b)) := by
  unfold putB
  split
  · refine ⟨?_, fun q hq => ?_⟩
    · rw [List.map_map]
      have e : ((fun x : Str × Th × Th => x.1) ∘ fun p => if p.1 = w then (p.1, a, b) else p) = fun x => x.1 := by
        funext p
        simp only [Function.comp]
        split <;> rfl
      rw [e]; exact h.nd
    · obtain ⟨p, hp, rfl⟩ := List.mem_map.mp hq
      split
      · exact ⟨(h.al p hp).1, ga, za, gb, zb⟩
      · exact h.al p hp
  · rename_i hn
    refine ⟨?_, fun q hq => ?_⟩
    · rw [List.map_append, List.nodup_append]
      refine ⟨h.nd, by simp, fun x hx y hy e => hn ?_⟩
      simp only [List.map_cons, List.map_nil, List.mem_singleton] at hy
      subst e hy
      obtain ⟨p, hp, e⟩ := List.mem_map.mp hx
      exact List.any_eq_true.mpr ⟨p, hp, by simp [e]⟩
    · rcases List.mem_append.mp hq with hq | hq
      · exact h.al q hq
      · simp only [List.mem_singleton] at hq
        subst hq
        exact ⟨hw, ga, za, gb, zb⟩
def SBook (c : Cf) : Prop := ∀ (ns : List Int) (S : Sto) (i j k : Nat) (ws : List Str), Tape S i j k ws → k + 800 ≤ 1000000 →
  ∃ (bk : Bk) (k' : Nat), k' ≤ k + 800 ∧ BkOk ws bk ∧ bk.length ≤ 3 ∧ c [.p (.list (ns.map .int)), .loc i, .loc j] S = .ok (.loc S.length) (S.set i (tp k') ++ [.dct (encB bk)])
section
variable {cl : Cl} {kk kt kd : Nat}
theorem book_loop {ns : List Int} {i j B : Nat} {ws : List Str} (hk : SGen (cl kk) false 1 4 50) (ht : SGen (cl kt) true 2 6 210) (b1 : B ≠ i) (b2 : B ≠ j) : ∀ (l : List Nat) (bk : Bk) (k : Nat) (v1 v2 : Option PV) (S : Sto), (∀ x ∈ l, x < 3) → Tape S i j k ws → S[B]? = some (.dct (encB bk)) → BkOk ws bk → bk.length + l.length ≤ 3 → k + 260 * l.length ≤ 1000000 →
    ∃ (bk' : Bk) (k' : Nat) (u1 u2 : Option PV), k' ≤ k + 260 * l.length ∧ BkOk ws bk' ∧ bk'.length ≤ 3 ∧
      forL (.nm 4) [] (exss cl (.cons (.asg (.nm 5) (.call kk (.cons (.v 0) (.cons (.v 1) (.cons (.c (.int 1)) (.cons (.c (.int 0)) (.cons (.v 2) .nil)))))))
    (.cons (.setI (.v 3) (.ix (.v 2) (.v 4)) (.tup (.cons (.v 5) (.cons (.call kt (.cons (.v 0) (.cons (.v 1) (.cons (.c (.int 2)) (.cons (.c (.int 0)) (.cons (.v 2) .nil)))))) .nil))))
    .nil))) (l.map fun (x : Nat) => PV.p (.int (0 + (x : Int)))) [some (.p (.list (ns.map .int))), some (.loc i), some (.loc j), some (.loc B), v1, v2] S =
      .nx [some (.p (.list (ns.map .int))), some (.loc i), some (.loc j), some (.loc B), u1, u2] ((S.set i (tp k')).set B (.dct (encB bk')))
  | [], bk, k, v1, v2, S, _, h, hB, ho, hl, _ => ⟨bk, k, v1, v2, by simp, ho, by simpa using hl, by
      rw [set_same h.t, set_same hB]; simp⟩
  | x :: l, bk, k, v1, v2, S, hx, h, hB, ho, hl, hk2 => by
    simp only [List.length_cons] at hl hk2
    have x3 := hx x List.mem_cons_self
    obtain ⟨a, ka, la, ga, za, ea⟩ := hk ns S i j k ws 1 0 h (by decide) (by decide) (by decide) (by omega)
    obtain ⟨b, kb, lb, gb, zb, eb⟩ := ht ns _ i j ka ws 2 0 (h.set ka) (by decide) (by decide) (by decide) (by omega)
    rw [List.set_set] at eb
    have hw : x < ws.length := by rw [h.w]; exact x3
    have ew : (ws.map PyData.str)[x]? = some (.str ws[x]) := by rw [List.getElem?_map, List.getElem?_eq_getElem hw]; rfl
    have h2 := h.set kb
    have hB2 : (S.set i (tp kb))[B]? = some (.dct (encB bk)) := by rw [List.getElem?_set_ne (Ne.symm b1)]; exact hB
    have hp2 := h2.p
    have pl : (encB bk).length < 1000000 := by rw [encB_len]; omega
    have pu := puK_encB (bk := bk) (k := ws[x]) (v := (a, b))
    have pln := putB_len (bk := bk) (k := ws[x]) (v := (a, b))
    have T3 : Tape ((S.set i (tp kb)).set B (.dct (encB (putB bk ws[x] (a, b))))) i j kb ws :=
      ⟨by rw [List.getElem?_set_ne b1]; exact h2.t, by rw [List.getElem?_set_ne b2]; exact h2.p, h.ne, h.w, h.o⟩
    obtain ⟨bk', k', u1, u2, p1, p2, p3, p4⟩ := book_loop hk ht b1 b2 l (putB bk ws[x] (a, b)) kb (some (.p (.int (0 + (x : Int))))) (some (.p a.e)) ((S.set i (tp kb)).set B (.dct (encB (putB bk ws[x] (a, b))))) (fun y hy => hx y (List.mem_cons_of_mem _ hy)) T3 (set_at (has_of hB2)) (putB_ok ho (List.getElem_mem hw) ga za gb zb) (by omega) (by omega)
    refine ⟨bk', k', u1, u2, by simp only [List.length_cons]; omega, p2, p3, ?_⟩
    rw [List.map_cons, for_cons0]
    simp [ea, eb, hp2, hB2, ix_n, ew, pl, pu]
    simp at p4
    rw [p4]
    congr 1
    rw [List.set_comm _ _ b1, List.set_set, List.set_set]
theorem book_ok (hd : SDraw2 (cl kd)) (hk : SGen (cl kk) false 1 4 50) (ht : SGen (cl kt) true 2 6 210) : SBook (runD cl 3 6 (m_l_book kd kt kk)) := by
  intro ns S i j k ws h hk2
  have hi := has_of h.t
  have hj := has_of h.p
  obtain ⟨r, r0, r1, e⟩ := hd ns (S ++ [.dct []]) i k 4 (h.app _).t (by omega) (by decide)
  rw [set_old hi] at e
  obtain ⟨n, rfl⟩ := Int.eq_ofNat_of_zero_le r0
  have hb : ((n : Nat) : Int) < 4611686018427387904 := by omega
  have n1 : S.length ≠ i := by unfold Has at hi; omega
  have n2 : S.length ≠ j := by unfold Has at hj; omega
  obtain ⟨bk, k', u1, u2, p1, p2, p3, p4⟩ := book_loop (cl := cl) (ns := ns) hk ht n1 n2 (List.range n) [] (k + 1) none none (S.set i (tp (k + 1)) ++ [.dct []]) (fun x hx => by have := List.mem_range.mp hx; omega) ((h.set (k + 1)).app _) (by simp [encB]) ⟨by simp, by simp⟩ (by simp; omega) (by simp; omega)
  have hi2 : Has (S.set i (tp (k + 1))) i := has_set hi
  rw [set_old hi2, List.set_set] at p4
  unfold m_l_book
  refine ⟨bk, k', by simp at p1; omega, p2, p3, ?_⟩
  simp at p4
  simp [runD, e, hb, p4]
end
end Kp

set_option Elab.async false
set_option linter.all false
set_option maxRecDepth 100000
set_option maxHeartbeats 8000000
set_option autoImplicit false
/-! S30: the rules. -/
namespace Kp
open PySem PySem.Spec PyProof.Rows L2
def Th.isFun : Th → Bool
  | .n2 .fun' _ _ => true
  | _ => false
def Th.isLike : Th → Bool
  | .n2 .like _ _ => true
  | _ => false
def Th.isPair : Th → Bool
  | .n3 .pair _ _ _ => true
  | _ => false
def Th.isZero : Th → Bool
  | .n0 .zero => true
  | _ => false
def Th.isNext : Th → Bool
  | .n1 .next _ => true
  | _ => false
theorem w_fun (a : Th) : (a.w = "fun") ↔ a.isFun = true := by
  cases a with
  | n0 w => cases w <;> simp [Th.isFun]
  | n1 w a => cases w <;> simp [Th.isFun]
  | n2 w a b => cases w <;> simp [Th.isFun]
  | n3 w a b c => cases w <;> simp [Th.isFun]
  | _ => simp [Th.isFun]
theorem w_like (a : Th) : (a.w = "like") ↔ a.isLike = true := by
  cases a with
  | n0 w => cases w <;> simp [Th.isLike]
  | n1 w a => cases w <;> simp [Th.isLike]
  | n2 w a b => cases w <;> simp [Th.isLike]
  | n3 w a b c => cases w <;> simp [Th.isLike]
  | _ => simp [Th.isLike]
theorem w_pair (a : Th) : (a.w = "pair") ↔ a.isPair = true := by
  cases a with
  | n0 w => cases w <;> simp [Th.isPair]
  | n1 w a => cases w <;> simp [Th.isPair]
  | n2 w a b => cases w <;> simp [Th.isPair]
  | n3 w a b c => cases w <;> simp [Th.isPair]
  | _ => simp [Th.isPair]
theorem w_zero (a : Th) : (a.w = "zero") ↔ a.isZero = true := by
  cases a with
  | n0 w => cases w <;> simp [Th.isZero]
  | n1 w a => cases w <;> simp [Th.isZero]
  | n2 w a b => cases w <;> simp [Th.isZero]
  | n3 w a b c => cases w <;> simp [Th.isZero]
  | _ => simp [Th.isZero]
theorem w_next (a : Th) : (a.w = "next") ↔ a.isNext = true := by
  cases a with
  | n0 w => cases w <;> simp [Th.isNext]
  | n1 w a => cases w <;> simp [Th.isNext]
  | n2 w a b => cases w <;> simp [Th.isNext]
  | n3 w a b c => cases w <;> simp [Th.isNext]
  | _ => simp [Th.isNext]
/-- the rule by which a thing steps itself -/
def Th.rl (bk : Bk) : Th → Option Str
  | .n2 .app a _ => if a.isFun = true then some "fun" else none
  | .rc _ _ _ d => if d.isZero = true then some "zero" else if d.isNext = true then some "next" else none
  | .n3 .carry _ _ c => if c.isLike = true then some "like" else none
  | .n1 .first a => if a.isPair = true then some "first" else none
  | .n1 .second a => if a.isPair = true then some "second" else none
  | .nm s => if bk.has s = true then some "name" else none
  | _ => none
def oS : Option Str → P
  | some s => .str s
  | none => .none
def SRule (c : Cf) : Prop := ∀ (t : Th) (S : Sto) (l : Nat) (bk : Bk), S[l]? = some (.dct (encB bk)) → c [.p t.e, .loc l] S = .ok (.p (oS (t.rl bk))) S
section
variable {cl : Cl}
theorem rule_of_ok : SRule (runD cl 2 3 m_rule_of) := by
  intro t S l bk h
  unfold m_rule_of
  cases t with
  | var n => simp [runD, Th.rl, oS]
  | nm s =>
    have lu := luK_has (bk := bk) (k := s)
    cases q : bk.has s <;> rw [q] at lu <;> simp [runD, h, lu, Th.rl, oS, q]
  | n0 w => cases w <;> simp [runD, Th.rl, oS]
  | n1 w a =>
    have hp := w_pair a
    cases w with
    | next => simp [runD, Th.rl, oS]
    | first =>
      by_cases q : a.isPair = true
      · have e := hp.mpr q
        simp [runD, Th.rl, oS, q, e]
      · have e : ¬ a.w = "pair" := fun z => q (hp.mp z)
        simp [runD, Th.rl, oS, q, e]
    | second =>
      by_cases q : a.isPair = true
      · have e := hp.mpr q
        simp [runD, Th.rl, oS, q, e]
      · have e : ¬ a.w = "pair" := fun z => q (hp.mp z)
        simp [runD, Th.rl, oS, q, e]
  | n2 w a b =>
    have hp := w_fun a
    cases w with
    | app =>
      by_cases q : a.isFun = true
      · have e := hp.mpr q
        simp [runD, Th.rl, oS, q, e]
      · have e : ¬ a.w = "fun" := fun z => q (hp.mp z)
        simp [runD, Th.rl, oS, q, e]
    | _ => simp [runD, Th.rl, oS]
  | n3 w a b c =>
    have hp := w_like c
    cases w with
    | carry =>
      by_cases q : c.isLike = true
      · have e := hp.mpr q
        simp [runD, Th.rl, oS, q, e]
      · have e : ¬ c.w = "like" := fun z => q (hp.mp z)
        simp [runD, Th.rl, oS, q, e]
    | _ => simp [runD, Th.rl, oS]
  | rc a b c d =>
    have hp := w_zero d
    have hn := w_next d
    by_cases q : d.isZero = true
    · have e := hp.mpr q
      simp [runD, Th.rl, oS, q, e]
    · have e1 : ¬ d.w = "zero" := fun z => q (hp.mp z)
      have e2 : ¬ Str.ofString "zero" = d.w := fun z => e1 z.symm
      by_cases q2 : d.isNext = true
      · have e := hn.mpr q2
        simp [runD, Th.rl, oS, q, q2, e]
      · have e3 : ¬ d.w = "next" := fun z => q2 (hn.mp z)
        have e4 : ¬ Str.ofString "next" = d.w := fun z => e3 z.symm
        simp [runD, Th.rl, oS, q, q2, e2, e4]
theorem hds1 : dctV ["app", "carry", "first", "second"] [.p (.tuple [.int 1, .str "fun"]), .p (.tuple [.int 3, .str "like"]), .p (.tuple [.int 1, .str "pair"]), .p (.tuple [.int 1, .str "pair"])] [] =
    some [(.inr "app", .tuple [.int 1, .str "fun"]), (.inr "carry", .tuple [.int 3, .str "like"]), (.inr "first", .tuple [.int 1, .str "pair"]), (.inr "second", .tuple [.int 1, .str "pair"])] := by kernel_rfl
theorem hds2 : dctV ["app", "carry", "first", "second"] [.p (.str "fun"), .p (.str "like"), .p (.str "first"), .p (.str "second")] [] =
    some [(.inr "app", .str "fun"), (.inr "carry", .str "like"), (.inr "first", .str "first"), (.inr "second", .str "second")] := by kernel_rfl
theorem lrule_ok : SRule (runD cl 2 4 m_l_rule) := by
  intro t S l bk h
  have hl := has_of h
  unfold m_l_rule
  cases t with
  | var n => simp [runD, Th.rl, oS, hds1, hds2, -dctV_cons]
  | nm s =>
    have lu := luK_has (bk := bk) (k := s)
    cases q : bk.has s <;> rw [q] at lu <;> simp [runD, h, hl, lu, Th.rl, oS, q]
  | n0 w => cases w <;> simp [runD, Th.rl, oS, hds1, hds2, -dctV_cons]
  | n1 w a =>
    have hp := w_pair a
    cases w with
    | next => simp [runD, Th.rl, oS, hds1, hds2, -dctV_cons]
    | first =>
      by_cases q : a.isPair = true
      · have e := hp.mpr q
        simp [runD, Th.rl, oS, q, e, hds1, hds2, -dctV_cons]
      · have e : ¬ a.w = "pair" := fun z => q (hp.mp z)
        simp [runD, Th.rl, oS, q, e, hds1, hds2, -dctV_cons]
    | second =>
      by_cases q : a.isPair = true
      · have e := hp.mpr q
        simp [runD, Th.rl, oS, q, e, hds1, hds2, -dctV_cons]
      · have e : ¬ a.w = "pair" := fun z => q (hp.mp z)
        simp [runD, Th.rl, oS, q, e, hds1, hds2, -dctV_cons]
  | n2 w a b =>
    have hp := w_fun a
    cases w with
    | app =>
      by_cases q : a.isFun = true
      · have e := hp.mpr q
        simp [runD, Th.rl, oS, q, e, hds1, hds2, -dctV_cons]
      · have e : ¬ a.w = "fun" := fun z => q (hp.mp z)
        simp [runD, Th.rl, oS, q, e, hds1, hds2, -dctV_cons]
    | _ => simp [runD, Th.rl, oS, hds1, hds2, -dctV_cons]
  | n3 w a b c =>
    have hp := w_like c
    cases w with
    | carry =>
      by_cases q : c.isLike = true
      · have e := hp.mpr q
        simp [runD, Th.rl, oS, q, e, hds1, hds2, -dctV_cons]
      · have e : ¬ c.w = "like" := fun z => q (hp.mp z)
        simp [runD, Th.rl, oS, q, e, hds1, hds2, -dctV_cons]
    | _ => simp [runD, Th.rl, oS, hds1, hds2, -dctV_cons]
  | rc a b c d =>
    have hp := w_zero d
    have hn := w_next d
    by_cases q : d.isZero = true
    · have e := hp.mpr q
      simp [runD, Th.rl, oS, q, e, hds1, hds2, -dctV_cons]
    · have e1 : ¬ d.w = "zero" := fun z => q (hp.mp z)
      have e2 : ¬ Str.ofString "zero" = d.w := fun z => e1 z.symm
      by_cases q2 : d.isNext = true
      · have e := hn.mpr q2
        simp [runD, Th.rl, oS, q, q2, e, hds1, hds2, -dctV_cons]
      · have e3 : ¬ d.w = "next" := fun z => q2 (hn.mp z)
        have e4 : ¬ Str.ofString "next" = d.w := fun z => e3 z.symm
        simp [runD, Th.rl, oS, q, q2, e2, e4, hds1, hds2, -dctV_cons]
end
end Kp

set_option Elab.async false
set_option linter.all false
set_option maxRecDepth 100000
set_option maxHeartbeats 8000000
set_option autoImplicit false
/-! S31: all places of a thing, in order. -/
namespace Kp
open PySem PySem.Spec PyProof.Rows L2
/-- stores that agree below n -/
structure Ag (n : Nat) (S S' : Sto) : Prop where
  le : n ≤ S'.length
  eq : ∀ i, i < n → S'[i]? = S[i]?
section
variable {n w i : Nat} {S S' S1 S2 : Sto} {c : Cell} {l : Sto}
theorem Ag.refl (h : n ≤ S.length) : Ag n S S := ⟨h, fun _ _ => rfl⟩
theorem Ag.set (h : Ag n S S') (hw : n ≤ w) : Ag n S (S'.set w c) := ⟨by rw [List.length_set]; exact h.le, fun i hi => by rw [List.getElem?_set_ne (by omega)]; exact h.eq i hi⟩
theorem Ag.app (h : Ag n S S') : Ag n S (S' ++ l) := ⟨by rw [List.length_append]; have := h.le; omega, fun i hi => by rw [List.getElem?_append_left (by have := h.le; omega)]; exact h.eq i hi⟩
theorem Ag.trans (h : Ag n S S1) (h2 : Ag n S1 S2) : Ag n S S2 := ⟨h2.le, fun i hi => (h2.eq i hi).trans (h.eq i hi)⟩
theorem Ag.mono {m : Nat} (h : Ag n S S') (hm : m ≤ n) : Ag m S S' := ⟨by have := h.le; omega, fun i hi => h.eq i (by omega)⟩
theorem Ag.get (h : Ag n S S') (hi : i < n) {x : Option Cell} (e : S[i]? = x) : S'[i]? = x := (h.eq i hi).trans e
theorem Ag.take (h : Ag S.length S S') : S'.take S.length = S := by
  apply List.ext_getElem?
  intro i
  rw [List.getElem?_take]
  split
  · rename_i hi; exact h.eq i hi
  · rename_i hi; rw [List.getElem?_eq_none (by omega)]
theorem gc_ag (h : Ag S.length S S') (hw : S.length ≤ w) (e : S'[w]? = some c) : gc S.length (.loc w) S' = .ok (.loc S.length) (S ++ [c]) := by
  unfold gc
  have n1 : ¬ w < S.length := by omega
  simp only [gcV, if_neg n1]
  have z : ([] : List Nat).idxOf? w = none := rfl
  rw [z]
  dsimp only
  rw [h.take]
  simp [e]
end
@[simp] def Th.pre : Th → List Int → List (List Int × Th)
  | .var n, p => [(p, .var n)]
  | .nm s, p => [(p, .nm s)]
  | .n0 w, p => [(p, .n0 w)]
  | .n1 w a, p => (p, .n1 w a) :: a.pre (p ++ [0])
  | .n2 w a b, p => (p, .n2 w a b) :: (a.pre (p ++ [0]) ++ b.pre (p ++ [1]))
  | .n3 w a b c, p => (p, .n3 w a b c) :: (a.pre (p ++ [0]) ++ (b.pre (p ++ [1]) ++ c.pre (p ++ [2])))
  | .rc a b c d, p => (p, .rc a b c d) :: (a.pre (p ++ [0]) ++ (b.pre (p ++ [1]) ++ (c.pre (p ++ [2]) ++ d.pre (p ++ [3]))))
def kidsI (p : List Int) : Nat → List Th → List (List Int × Th)
  | _, [] => []
  | n, t :: r => (p ++ [(n : Int)], t) :: kidsI p (n + 1) r
def presOf (st : List (List Int × Th)) : List (List Int × Th) := st.flatMap fun q => q.2.pre q.1
theorem pre_eq (t : Th) (p : List Int) : t.pre p = (p, t) :: presOf (kidsI p 0 t.kids) := by
  cases t <;> simp [kidsI, presOf]
def encPT (q : List Int × Th) : P := .tuple [.tuple (q.1.map .int), q.2.e]
def szs (st : List (List Int × Th)) : Nat := (st.map fun q => q.2.sz).sum
theorem szs_kids (t : Th) (p : List Int) : szs (kidsI p 0 t.kids) + 1 = t.sz := by
  cases t <;> simp [kidsI, szs] <;> omega
theorem kidsI_len (p : List Int) : ∀ (n : Nat) (ks : List Th), (kidsI p n ks).length = ks.length
  | _, [] => rfl
  | n, t :: r => by simp [kidsI, kidsI_len p (n + 1) r]
theorem szs_app (a b : List (List Int × Th)) : szs (a ++ b) = szs a + szs b := by simp [szs]
theorem len_szs : ∀ (st : List (List Int × Th)), st.length ≤ szs st
  | [] => by simp [szs]
  | q :: r => by
    have := len_szs r
    have h1 : 1 ≤ q.2.sz := by cases q.2 <;> simp
    simp only [szs, List.map_cons, List.sum_cons, List.length_cons] at *
    omega
theorem kidsI_pl (p : List Int) {d : Nat} : ∀ (n : Nat) (ks : List Th), (∀ k ∈ ks, k.dp ≤ d) → ∀ q ∈ kidsI p n ks, q.1.length + q.2.dp ≤ p.length + 1 + d
  | _, [], _, q, hq => by cases hq
  | n, t :: r, h, q, hq => by
    rcases List.mem_cons.mp hq with rfl | hq
    · have := h t List.mem_cons_self
      simp only [List.length_append, List.length_cons, List.length_nil]; omega
    · exact kidsI_pl p (n + 1) r (fun k hk => h k (List.mem_cons_of_mem _ hk)) q hq
theorem pre_len : ∀ (t : Th) (p : List Int), (t.pre p).length = t.sz
  | .var _, _ => rfl
  | .nm _, _ => rfl
  | .n0 _, _ => rfl
  | .n1 _ a, p => by simp [pre_len a]
  | .n2 _ a b, p => by simp [pre_len a, pre_len b]
  | .n3 _ a b c, p => by simp [pre_len a, pre_len b, pre_len c]; omega
  | .rc a b c d, p => by simp [pre_len a, pre_len b, pre_len c, pre_len d]; omega
def pushB : Sms := (.cons (.asg (.nm 8) (.bin .sub (.bin .sub (.bi .len (.cons (.v 6) .nil)) (.c (.int 1))) (.v 7)))
    (.cons (.ex (.mth .append (.v 3) (.cons (.tup (.cons (.bin .add (.v 4) (.tup (.cons (.v 8) .nil))) (.cons (.ix (.v 6) (.v 8)) .nil))) .nil)))
    .nil))
section
variable {cl : Cl}
theorem push_rows {th bl fnd here : Option PV} {w kc : Nat} {p : List Int} (ks : List Th) (hk : ks.length ≤ 4) (W : List P) (v7 v8 : Option PV) (S : Sto) (hw : S[w]? = some (.lst W)) (hkc : S[kc]? = some (.lst (ks.map Th.e))) (ne : w ≠ kc) (hp : p.length ≤ 2000) (hW : W.length ≤ 900000) :
    ∃ a b, forL (.nm 7) [] (exss cl pushB) ((List.range ks.length).map fun (k : Nat) => PV.p (.int (0 + (k : Int)))) [th, bl, fnd, some (.loc w), some (.p (.tuple (p.map .int))), here, some (.loc kc), v7, v8] S =
      .nx [th, bl, fnd, some (.loc w), some (.p (.tuple (p.map .int))), here, some (.loc kc), a, b] (S.set w (.lst (W ++ ((kidsI p 0 ks).reverse.map encPT)))) := by
  have hi := has_of hw
  have hpl : p.length + 1 ≤ 1000000 := by omega
  have w0 : W.length < 1000000 := by omega
  have w1 : W.length + 1 < 1000000 := by omega
  have w2 : W.length + 2 < 1000000 := by omega
  have w3 : W.length + 3 < 1000000 := by omega
  have kne : ∀ c, (S.set w c)[kc]? = some (.lst (ks.map Th.e)) := fun c => by rw [List.getElem?_set_ne ne]; exact hkc
  unfold pushB
  match ks, hk with
  | [], _ => exact ⟨v7, v8, by simp [kidsI, set_same hw]⟩
  | [a], _ =>
    simp at hkc kne
    exact ⟨_, _, by simp [rg1, for_cons0, hkc, kne, hw, hi, hpl, w0, kidsI, encPT]; try exact ⟨rfl, rfl⟩⟩
  | [a, b], _ =>
    simp at hkc kne
    exact ⟨_, _, by simp [rg2, for_cons0, hkc, kne, hw, hi, hpl, w0, w1, kidsI, encPT]; try exact ⟨rfl, rfl⟩⟩
  | [a, b, c], _ =>
    simp at hkc kne
    exact ⟨_, _, by simp [rg3, for_cons0, hkc, kne, hw, hi, hpl, w0, w1, w2, kidsI, encPT]; try exact ⟨rfl, rfl⟩⟩
  | [a, b, c, d], _ =>
    simp at hkc kne
    exact ⟨_, _, by simp [rg4, for_cons0, hkc, kne, hw, hi, hpl, w0, w1, w2, w3, kidsI, encPT]; try exact ⟨rfl, rfl⟩⟩
  | _ :: _ :: _ :: _ :: _ :: _, h => simp at h
end
end Kp

set_option Elab.async false
set_option linter.all false
set_option maxRecDepth 100000
set_option maxHeartbeats 8000000
set_option autoImplicit false
/-! S32: the law's own rows. -/
namespace Kp
open PySem PySem.Spec PyProof.Rows L2
theorem pop_last {S : Sto} {i : Nat} {A : List P} {x : P} (h : S[i]? = some (.lst (A ++ [x]))) : mtV .pop0 (.loc i) [] S = .ok (.p x) (S.set i (.lst A)) := by
  unfold mtV
  dsimp only
  rw [h]
  dsimp only
  have e : (A ++ [x])[(A ++ [x]).length - 1]? = some x := by simp
  rw [e]
  dsimp only
  rw [List.dropLast_concat]
def rowP (bk : Bk) (q : List Int × Th) : P := .tuple [.tuple (q.1.map .int), q.2.e, oS (q.2.rl bk)]
def rowsB (kk kr : Nat) : Sms := (.cons (.asg (.tp [4, 5]) (.mth .pop0 (.v 3) .nil))
    (.cons (.ex (.mth .append (.v 2) (.cons (.tup (.cons (.v 4) (.cons (.v 5) (.cons (.call kr (.cons (.v 5) (.cons (.v 1) .nil))) .nil)))) .nil)))
    (.cons (.asg (.nm 6) (.call kk (.cons (.v 5) .nil)))
    (.cons (.for' (.nm 7) (.rng1 (.bi .len (.cons (.v 6) .nil))) pushB)
    .nil))))
section
variable {cl : Cl} {kk kr : Nat}
theorem rows_turn {th v4 v5 v6 v7 v8 : Option PV} {l f w n : Nat} {bk : Bk} {p : List Int} {t : Th} {rest : List (List Int × Th)} {fd : List P} {S : Sto} (hr : SRule (cl kr)) (hk : SKids (cl kk)) (hl : S[l]? = some (.dct (encB bk))) (hf : S[f]? = some (.lst fd)) (hw : S[w]? = some (.lst ((((p, t) :: rest).reverse).map encPT)))
    (ne : f ≠ w) (lw : l ≠ w) (lf : l ≠ f) (hn : n ≤ S.length) (nf : n ≤ f) (nw : n ≤ w) (hfd : fd.length < 900000) (hrest : rest.length ≤ 900000) (hp : p.length ≤ 2000) :
    ∃ u4 u5 u6 u7 u8 S', exss cl (rowsB kk kr) [th, some (.loc l), some (.loc f), some (.loc w), v4, v5, v6, v7, v8] S = .nx [th, some (.loc l), some (.loc f), some (.loc w), u4, u5, u6, u7, u8] S' ∧ Ag n S S' ∧
      S'[l]? = some (.dct (encB bk)) ∧ S'[f]? = some (.lst (fd ++ [rowP bk (p, t)])) ∧ S'[w]? = some (.lst (((kidsI p 0 t.kids ++ rest).reverse).map encPT)) := by
  have hfi := has_of hf
  have hwi := has_of hw
  have hli := has_of hl
  have e0 : (((p, t) :: rest).reverse).map encPT = (rest.reverse.map encPT) ++ [encPT (p, t)] := by simp
  rw [e0] at hw
  have pp := pop_last hw
  generalize hS1 : S.set w (.lst (rest.reverse.map encPT)) = S1 at *
  have h1w : S1[w]? = some (.lst (rest.reverse.map encPT)) := by rw [← hS1]; exact set_at hwi
  have h1f : S1[f]? = some (.lst fd) := by rw [← hS1, List.getElem?_set_ne (Ne.symm ne)]; exact hf
  have h1l : S1[l]? = some (.dct (encB bk)) := by rw [← hS1, List.getElem?_set_ne (Ne.symm lw)]; exact hl
  have e1 := hr t S1 l bk h1l
  have ag1 : Ag n S S1 := by rw [← hS1]; exact (Ag.refl hn).set nw
  have l1 : fd.length < 1000000 := by omega
  generalize hS2 : S1.set f (.lst (fd ++ [rowP bk (p, t)])) = S2 at *
  have h2w : S2[w]? = some (.lst (rest.reverse.map encPT)) := by rw [← hS2, List.getElem?_set_ne ne]; exact h1w
  have h2f : S2[f]? = some (.lst (fd ++ [rowP bk (p, t)])) := by rw [← hS2]; exact set_at (has_of h1f)
  have h2l : S2[l]? = some (.dct (encB bk)) := by rw [← hS2, List.getElem?_set_ne (Ne.symm lf)]; exact h1l
  have ag2 : Ag n S S2 := by rw [← hS2]; exact ag1.set nf
  have e2 := hk t S2
  have h3w : (S2 ++ [.lst (t.kids.map Th.e)])[w]? = some (.lst (rest.reverse.map encPT)) := by rw [at_old (has_of h2w)]; exact h2w
  have few := kids_few t
  have wl : w < S2.length := getE_lt h2w
  obtain ⟨a, b, e3⟩ := push_rows (cl := cl) (th := th) (bl := some (.loc l)) (fnd := some (.loc f)) (here := some (.p t.e)) (kc := S2.length) (p := p) t.kids few (rest.reverse.map encPT) v7 v8 (S2 ++ [.lst (t.kids.map Th.e)]) h3w (by simp) (by omega) hp (by simp; omega)
  have hb : ((t.kids.length : Nat) : Int) < 4611686018427387904 := by omega
  refine ⟨some (.p (.tuple (p.map .int))), some (.p t.e), some (.loc S2.length), a, b, (S2 ++ [Cell.lst (t.kids.map Th.e)]).set w (Cell.lst (rest.reverse.map encPT ++ (kidsI p 0 t.kids).reverse.map encPT)), ?_, (ag2.app).set nw, ?_, ?_, ?_⟩
  · unfold rowsB
    have hS2' : S1.set f (.lst (fd ++ [.tuple [.tuple (p.map .int), t.e, oS (t.rl bk)]])) = S2 := hS2
    have ppe : mtV .pop0 (.loc w) [] S = .ok (.p (.tuple [.tuple (p.map .int), t.e])) S1 := pp
    simp [hw, ppe, h1f, e1, l1, hS2', e2, hb]
    simp at e3
    rw [e3]
    simp
  · rw [List.getElem?_set_ne (Ne.symm lw), at_old (has_of h2l)]; exact h2l
  · rw [List.getElem?_set_ne (Ne.symm ne), at_old (has_of h2f)]; exact h2f
  · rw [set_at (has_of h3w)]; simp
theorem rows_while {th : Option PV} {l f w n : Nat} {bk : Bk} (hr : SRule (cl kr)) (hk : SKids (cl kk)) (ne : f ≠ w) (lw : l ≠ w) (lf : l ≠ f) (nf : n ≤ f) (nw : n ≤ w) : ∀ (m : Nat) (st : List (List Int × Th)) (fd : List P) (v4 v5 v6 v7 v8 : Option PV) (S : Sto), szs st < m → fd.length + szs st ≤ 100000 → (∀ q ∈ st, q.1.length + q.2.dp ≤ 1000) →
    n ≤ S.length → S[l]? = some (.dct (encB bk)) → S[f]? = some (.lst fd) → S[w]? = some (.lst (st.reverse.map encPT)) →
    ∃ u4 u5 u6 u7 u8 S', whileL (evT cl (.cmp .gt (.bi .len (.cons (.v 3) .nil)) (.c (.int 0)))) (exss cl (rowsB kk kr)) m [th, some (.loc l), some (.loc f), some (.loc w), v4, v5, v6, v7, v8] S = .nx [th, some (.loc l), some (.loc f), some (.loc w), u4, u5, u6, u7, u8] S' ∧ Ag n S S' ∧
      S'[f]? = some (.lst (fd ++ (presOf st).map (rowP bk)))
  | 0, st, fd, v4, v5, v6, v7, v8, S, h, _, _, _, _, _, _ => absurd h (Nat.not_lt_zero _)
  | m + 1, [], fd, v4, v5, v6, v7, v8, S, h, h2, h3, hn, hl, hf, hw => by
    refine ⟨v4, v5, v6, v7, v8, S, ?_, Ag.refl hn, by simp [presOf, hf]⟩
    rw [whileL]
    simp [hw]
  | m + 1, (p, t) :: rest, fd, v4, v5, v6, v7, v8, S, h, h2, h3, hn, hl, hf, hw => by
    have hz : szs ((p, t) :: rest) = t.sz + szs rest := by simp [szs]
    have hk1 := szs_kids t p
    have ls := len_szs rest
    have hp := h3 (p, t) List.mem_cons_self
    obtain ⟨u4, u5, u6, u7, u8, S1, e1, ag, a1, a2, a3⟩ := rows_turn (th := th) (v4 := v4) (v5 := v5) (v6 := v6) (v7 := v7) (v8 := v8) hr hk hl hf hw ne lw lf hn nf nw (by omega) (by omega) (by have := dp_pos t; simp only at hp; omega)
    obtain ⟨x4, x5, x6, x7, x8, S2, e2, ag2, a4⟩ := rows_while (th := th) hr hk ne lw lf nf nw m (kidsI p 0 t.kids ++ rest) (fd ++ [rowP bk (p, t)]) u4 u5 u6 u7 u8 S1 (by rw [szs_app]; omega) (by rw [szs_app, List.length_append]; simp only [List.length_cons, List.length_nil]; omega) (fun q hq => by
      rcases List.mem_append.mp hq with hq | hq
      · cases hd : t.dp with
        | zero => have := dp_pos t; omega
        | succ d =>
          have := kidsI_pl p (d := d) 0 t.kids (kids_dp t (by omega)) q hq
          simp only at hp; omega
      · exact h3 q (List.mem_cons_of_mem _ hq)) ag.le a1 a2 a3
    refine ⟨x4, x5, x6, x7, x8, S2, ?_, ag.trans ag2, ?_⟩
    · rw [whileL]
      have g : evT cl (.cmp .gt (.bi .len (.cons (.v 3) .nil)) (.c (.int 0))) [th, some (.loc l), some (.loc f), some (.loc w), v4, v5, v6, v7, v8] S = .ok true S := by
        simp [hw]
      rw [g, st_ok, if_pos rfl, e1]
      exact e2
    · rw [a4]
      have : presOf ((p, t) :: rest) = t.pre p ++ presOf rest := by simp [presOf]
      rw [this, pre_eq]
      simp [presOf, List.flatMap_append]
def SRows (c : Cf) : Prop := ∀ (t : Th) (S : Sto) (l : Nat) (bk : Bk), S[l]? = some (.dct (encB bk)) → t.dp ≤ 900 → t.sz ≤ 90000 → c [.p t.e, .loc l] S = .ok (.loc S.length) (S ++ [.lst ((t.pre []).map (rowP bk))])
theorem rows_ok (hr : SRule (cl kr)) (hk : SKids (cl kk)) : SRows (runD cl 2 9 (m_l_rows kk kr)) := by
  intro t S l bk h hd hz
  have hli := getE_lt h
  obtain ⟨u4, u5, u6, u7, u8, S', e, ag, a⟩ := rows_while (th := some (.p t.e)) (l := l) (f := S.length) (w := S.length + 1) (n := S.length) (bk := bk) hr hk (by omega) (by omega) (by omega) (by omega) (by omega) WL [([], t)] [] none none none none none (S ++ [.lst [], .lst [encPT ([], t)]]) (by simp only [szs, WL, List.map_cons, List.map_nil, List.sum_cons, List.sum_nil]; omega) (by simp only [szs, List.map_cons, List.map_nil, List.sum_cons, List.sum_nil, List.length_nil]; omega) (fun q hq => by
    simp only [List.mem_singleton] at hq; subst hq; simp only [List.length_nil]; omega) (by simp) (by rw [at_old (has_of h)]; exact h) (by simp) (by simp)
  have ag' : Ag S.length S S' := ((Ag.refl (Nat.le_refl _)).app).trans ag
  have g := gc_ag ag' (Nat.le_refl _) a
  have p1 : presOf [([], t)] = t.pre [] := by simp [presOf]
  rw [p1, List.nil_append] at g
  unfold m_l_rows
  unfold rowsB pushB at e
  have enc0 : encPT ([], t) = .tuple [.tuple [], t.e] := rfl
  rw [enc0] at e
  simp [runD]
  try simp at e
  rw [e]
  simpa using g
end
end Kp

set_option Elab.async false
set_option linter.all false
set_option maxRecDepth 100000
set_option maxHeartbeats 8000000
set_option autoImplicit false
/-! S33: the tape's defs in a table, at every level from one on. -/
namespace Kp
open PySem PySem.Spec PyProof.Rows L2
structure TapeT (T : Nat → Option FD) (kdr knm kpo kle kki kfu kpa kli knu kpt kst kte : Nat) : Prop where
  dr : ∀ n, callE T (n + 1) kdr = runD (callE T n) 3 5 m_l_draw
  nm : ∀ n, callE T (n + 1) knm = runD (callE T n) 1 1 m_l_named
  po : ∀ n, callE T (n + 1) kpo = runD (callE T n) 2 11 (m_l_pool knm kdr)
  le : ∀ n, callE T (n + 1) kle = runD (callE T n) 4 5 (m_l_leaf kdr)
  ki : ∀ n, callE T (n + 1) kki = runD (callE T n) 5 8 (m_l_kind kte kki kdr)
  fu : ∀ n, callE T (n + 1) kfu = runD (callE T n) 5 6 (m_l_fun kte kki)
  pa : ∀ n, callE T (n + 1) kpa = runD (callE T n) 5 7 (m_l_pair kte kki)
  li : ∀ n, callE T (n + 1) kli = runD (callE T n) 5 6 (m_l_like kte kki)
  nu : ∀ n, callE T (n + 1) knu = runD (callE T n) 5 5 (m_l_number kte kdr)
  pt : ∀ n, callE T (n + 1) kpt = runD (callE T n) 6 10 (m_l_parted knu kte kli kki kpa kdr kfu)
  st : ∀ n, callE T (n + 1) kst = runD (callE T n) 6 9 (m_l_still kki kte kdr kli kpa kfu)
  te : ∀ n, callE T (n + 1) kte = runD (callE T n) 5 6 (m_l_term kst kpt kle kdr)
theorem up {P : Nat → Prop} {a : Nat} (h : ∀ n, a ≤ n → P (n + 1)) : ∀ n, a + 1 ≤ n → P n := fun n hn => by
  obtain ⟨m, rfl⟩ : ∃ m, n = m + 1 := ⟨n - 1, by omega⟩
  exact h m (by omega)
section
variable {T : Nat → Option FD} {kdr knm kpo kle kki kfu kpa kli knu kpt kst kte : Nat}
theorem TapeT.eDr (t : TapeT T kdr knm kpo kle kki kfu kpa kli knu kpt kst kte) : ∀ n, 1 ≤ n → SDraw2 (callE T n kdr) := up (a := 0) fun n _ => by rw [t.dr]; exact draw2_ok
theorem TapeT.eNm (t : TapeT T kdr knm kpo kle kki kfu kpa kli knu kpt kst kte) : ∀ n, 1 ≤ n → SNamed (callE T n knm) := up (a := 0) fun n _ => by rw [t.nm]; exact named_ok
theorem TapeT.ePo (t : TapeT T kdr knm kpo kle kki kfu kpa kli knu kpt kst kte) : ∀ n, 2 ≤ n → SPool2 (callE T n kpo) := up (a := 1) fun n h => by rw [t.po]; exact pool_ok (t.eNm n h) (t.eDr n h)
theorem TapeT.eLe (t : TapeT T kdr knm kpo kle kki kfu kpa kli knu kpt kst kte) : ∀ n, 2 ≤ n → SLeaf (callE T n kle) := up (a := 1) fun n h => by rw [t.le]; exact leaf_ok (t.eDr n h)
theorem TapeT.eG (t : TapeT T kdr knm kpo kle kki kfu kpa kli knu kpt kst kte) : ∀ d n, 3 * d + 3 ≤ n → SGen (callE T n kki) false d (2 * d + 2) (nb d) ∧ SGen (callE T n kte) true d (2 * d + 2) (nb d)
  | 0, n, hn => by
    obtain ⟨m, rfl⟩ : ∃ m, n = m + 1 := ⟨n - 1, by omega⟩
    exact ⟨by rw [t.ki]; exact kind_ok (t.eDr m (by omega)) fun d' h => by omega, by rw [t.te]; exact term_ok (t.eDr m (by omega)) (t.eLe m (by omega)) fun d' h => by omega⟩
  | d + 1, n, hn => by
    obtain ⟨m, rfl⟩ : ∃ m, n = m + 3 := ⟨n - 3, by omega⟩
    have ih := fun m (h : 3 * d + 3 ≤ m) => t.eG d m h
    have k0 := ih m (by omega)
    have k1 := ih (m + 1) (by omega)
    have k2 := ih (m + 2) (by omega)
    have d0 := t.eDr m (by omega)
    have d1 := t.eDr (m + 1) (by omega)
    have d2 := t.eDr (m + 2) (by omega)
    have ef : SGen1 (callE T (m + 1) kfu) true d (2 * d + 2 + 1) (2 * nb d) := by rw [t.fu]; exact fun_ok k0.1 k0.2
    have el : SGen1 (callE T (m + 1) kli) true d (2 * d + 2 + 1) (2 * nb d) := by rw [t.li]; exact like_ok k0.1 k0.2
    have ep : SGen1 (callE T (m + 1) kpa) true d (2 * d + 2 + 1) (3 * nb d) := by rw [t.pa]; exact gpair_ok k0.1 k0.2
    have en : SGen1 (callE T (m + 1) knu) true d (2 * d + 2 + 1) (nb d + 1) := by rw [t.nu]; exact number_ok d0 (by omega) k0.2
    refine ⟨?_, ?_⟩
    · rw [t.ki]
      exact kind_ok d2 fun d' h => by
        have : d = d' := by omega
        subst this
        exact k2
    · rw [t.te]
      refine term_ok d2 (t.eLe (m + 2) (by omega)) fun d' h => ?_
      have : d = d' := by omega
      subst this
      exact ⟨by rw [t.pt]; exact parted_ok d1 k1.1 k1.2 ef el ep en, by rw [t.st]; exact still_ok d1 k1.1 k1.2 ef el ep⟩
theorem TapeT.eBk (t : TapeT T kdr knm kpo kle kki kfu kpa kli knu kpt kst kte) {kbo : Nat} (bo : ∀ n, callE T (n + 1) kbo = runD (callE T n) 3 6 (m_l_book kdr kte kki)) : ∀ n, 10 ≤ n → SBook (callE T n kbo) := up (a := 9) fun n h => by
  rw [bo]
  exact book_ok (t.eDr n (by omega)) (t.eG 1 n (by omega)).1 (t.eG 2 n (by omega)).2
theorem eKids2 {kk : Nat} (ek : ∀ n, callE T (n + 1) kk = runD (callE T n) 1 1 m_l_kids_v2) : ∀ n, 1 ≤ n → SKids (callE T n kk) := up (a := 0) fun n _ => by rw [ek]; exact kids2_ok
theorem eMeas {kk km : Nat} (ek : ∀ n, callE T (n + 1) kk = runD (callE T n) 1 1 m_l_kids_v2) (em : ∀ n, callE T (n + 1) km = runD (callE T n) 1 6 (m_l_measured kk km)) : ∀ d n, d + 1 ≤ n → SMeas (callE T n km) d
  | 0, n, _ => fun t _ h => absurd h (by have := dp_pos t; omega)
  | d + 1, n, h => by
    obtain ⟨m, rfl⟩ : ∃ m, n = m + 1 := ⟨n - 1, by omega⟩
    rw [em]
    exact meas_ok (eKids2 ek m (by omega)) (eMeas ek em d m (by omega))
theorem eGreat2 {kk km kg : Nat} (ek : ∀ n, callE T (n + 1) kk = runD (callE T n) 1 1 m_l_kids_v2) (em : ∀ n, callE T (n + 1) km = runD (callE T n) 1 6 (m_l_measured kk km)) (eg : ∀ n, callE T (n + 1) kg = runD (callE T n) 1 2 (m_l_great_v2 km)) (d : Nat) : ∀ n, d + 2 ≤ n → SGreat2 (callE T n kg) d := up (a := d + 1) fun n h => by
  rw [eg]
  exact great2_ok (eMeas ek em d n h)
theorem TapeT.eTh (t : TapeT T kdr knm kpo kle kki kfu kpa kli knu kpt kst kte) {kk km kg kth : Nat} (ek : ∀ n, callE T (n + 1) kk = runD (callE T n) 1 1 m_l_kids_v2) (em : ∀ n, callE T (n + 1) km = runD (callE T n) 1 6 (m_l_measured kk km)) (eg : ∀ n, callE T (n + 1) kg = runD (callE T n) 1 2 (m_l_great_v2 km))
    (eth : ∀ n, callE T (n + 1) kth = runD (callE T n) 5 6 (m_l_thing kg kdr kki kte)) (d : Nat) : ∀ n, 3 * d + 6 ≤ n → SThing (callE T n kth) d := up (a := 3 * d + 5) fun n h => by
  rw [eth]
  exact thing_ok (t.eDr n (by omega)) (t.eG d n (by omega)).1 (t.eG d n (by omega)).2 (eGreat2 ek em eg (2 * d + 2) n (by omega))
theorem eRule {kr : Nat} (er : ∀ n, callE T (n + 1) kr = runD (callE T n) 2 4 m_l_rule) : ∀ n, 1 ≤ n → SRule (callE T n kr) := up (a := 0) fun n _ => by rw [er]; exact lrule_ok
theorem eRuleOf {kr : Nat} (er : ∀ n, callE T (n + 1) kr = runD (callE T n) 2 3 m_rule_of) : ∀ n, 1 ≤ n → SRule (callE T n kr) := up (a := 0) fun n _ => by rw [er]; exact rule_of_ok
theorem eRows {kr kk kro : Nat} (er : ∀ n, callE T (n + 1) kr = runD (callE T n) 2 4 m_l_rule) (ek : ∀ n, callE T (n + 1) kk = runD (callE T n) 1 1 m_l_kids_v2) (ero : ∀ n, callE T (n + 1) kro = runD (callE T n) 2 9 (m_l_rows kk kr)) : ∀ n, 2 ≤ n → SRows (callE T n kro) := up (a := 1) fun n h => by
  rw [ero]
  exact rows_ok (eRule er n h) (eKids2 ek n h)
end
/-! data for == -/
@[simp] def Th.so : Th → Prop
  | .nm s => PyData.strOk s = true
  | .var _ => True | .n0 _ => True
  | .n1 _ a => a.so
  | .n2 _ a b => a.so ∧ b.so
  | .n3 _ a b c => a.so ∧ b.so ∧ c.so
  | .rc a b c d => a.so ∧ b.so ∧ c.so ∧ d.so
theorem ok_so {ws : List Str} (ho : ∀ w ∈ ws, PyData.strOk w = true) : ∀ (d : Nat) (t : Th) (b : Bool), Gd ws b d t → t.so
  | 0, t, b, h => by cases t <;> exact h.elim
  | d + 1, .var n, b, h => trivial
  | d + 1, .nm n, b, h => ho _ h.2
  | d + 1, .n0 w, b, h => trivial
  | d + 1, .n1 w x, b, h => ok_so ho d x _ h.2
  | d + 1, .n2 w x y, b, h => by cases w <;> exact ⟨ok_so ho d x _ h.2.1, ok_so ho d y _ h.2.2⟩
  | d + 1, .n3 w x y z, b, h => by cases w <;> exact ⟨ok_so ho d x _ h.2.1, ok_so ho d y _ h.2.2.1, ok_so ho d z _ h.2.2.2⟩
  | d + 1, .rc x y z u, b, h => ⟨ok_so ho d x _ h.2.1, ok_so ho d y _ h.2.2.1, ok_so ho d z _ h.2.2.2.1, ok_so ho d u _ h.2.2.2.2⟩
theorem so0 (w : U0) : PyData.strOk w.s = true := by cases w <;> decide +kernel
theorem so1 (w : U1) : PyData.strOk w.s = true := by cases w <;> decide +kernel
theorem so2 (w : U2) : PyData.strOk w.s = true := by cases w <;> decide +kernel
theorem so3 (w : U3) : PyData.strOk w.s = true := by cases w <;> decide +kernel
theorem sov : PyData.strOk ("var" : Str) = true := by decide +kernel
theorem son : PyData.strOk ("name" : Str) = true := by decide +kernel
theorem sor : PyData.strOk ("rec" : Str) = true := by decide +kernel
theorem lay_e : ∀ t : Th, t.so → t.e.canLay0 = true
  | .var n, _ => by simp [Th.e, PyData.canLay0, PyData.canLayAll0, sov]
  | .nm s, h => by have h : PyData.strOk s = true := h; simp [Th.e, PyData.canLay0, PyData.canLayAll0, son, h]
  | .n0 w, _ => by simp only [Th.e, PyData.canLay0, PyData.canLayAll0, so0]; rfl
  | .n1 w a, h => by simp only [Th.e, PyData.canLay0, PyData.canLayAll0, so1, lay_e a h]; rfl
  | .n2 w a b, h => by simp only [Th.e, PyData.canLay0, PyData.canLayAll0, so2, lay_e a h.1, lay_e b h.2]; rfl
  | .n3 w a b c, h => by simp only [Th.e, PyData.canLay0, PyData.canLayAll0, so3, lay_e a h.1, lay_e b h.2.1, lay_e c h.2.2]; rfl
  | .rc a b c d, h => by simp only [Th.e, PyData.canLay0, PyData.canLayAll0, sor, lay_e a h.1, lay_e b h.2.1, lay_e c h.2.2.1, lay_e d h.2.2.2]; rfl
theorem dep_e : ∀ t : Th, t.e.depth ≤ t.dp
  | .var n => by simp [Th.e, PyData.depth, PyData.depthAll]
  | .nm n => by simp [Th.e, PyData.depth, PyData.depthAll]
  | .n0 w => by simp [Th.e, PyData.depth, PyData.depthAll]
  | .n1 w a => by have := dep_e a; simp only [Th.e, PyData.depth, PyData.depthAll, Th.dp]; omega
  | .n2 w a b => by have := dep_e a; have := dep_e b; simp only [Th.e, PyData.depth, PyData.depthAll, Th.dp]; omega
  | .n3 w a b c => by have := dep_e a; have := dep_e b; have := dep_e c; simp only [Th.e, PyData.depth, PyData.depthAll, Th.dp]; omega
  | .rc a b c d => by have := dep_e a; have := dep_e b; have := dep_e c; have := dep_e d; simp only [Th.e, PyData.depth, PyData.depthAll, Th.dp]; omega
theorem dsh_B {ws : List Str} {bk : Bk} (ho : ∀ w ∈ ws, PyData.strOk w = true) (h : BkOk ws bk) : dshB (encB bk) = true := by
  unfold dshB encB
  rw [List.all_map, List.all_eq_true]
  intro q hq
  obtain ⟨h1, h2, h3, h4, h5⟩ := h.al q hq
  have a := dep_e q.2.1
  have b := dep_e q.2.2
  have c := ok_dp _ _ _ h2
  have d := ok_dp _ _ _ h4
  have x1 := lay_e _ (ok_so ho _ _ _ h2)
  have x2 := lay_e _ (ok_so ho _ _ _ h4)
  simp only [Function.comp, PyData.canLay0, PyData.canLayAll0, x1, x2, PyData.depth, PyData.depthAll, Bool.and_eq_true, decide_eq_true_eq]
  refine ⟨by simp, ?_⟩
  apply decide_eq_true
  omega
theorem dq_self {ws : List Str} {bk : Bk} (ho : ∀ w ∈ ws, PyData.strOk w = true) (h : BkOk ws bk) : dqP (encB bk) (encB bk) = true := by
  unfold dqP
  rw [beq_self_eq_true, Bool.true_and, List.all_eq_true]
  intro p hp
  unfold encB at hp
  obtain ⟨q, hq, rfl⟩ := List.mem_map.mp hp
  have lu : luK (encB bk) (.inr q.1) = some (.tuple [q.2.1.e, q.2.2.e]) := by
    rw [luK_encB]
    have key : ∀ l : Bk, (l.map (·.1)).Nodup → q ∈ l → l.find? (fun p => decide (p.1 = q.1)) = some q := by
      intro l
      induction l with
      | nil => intro _ h; cases h
      | cons a r ih =>
        intro nd hm
        rw [List.map_cons, List.nodup_cons] at nd
        rw [List.find?_cons]
        rcases List.mem_cons.mp hm with e | hm
        · subst e; simp
        · by_cases e : a.1 = q.1
          · exact absurd (List.mem_map.mpr ⟨q, hm, e.symm⟩) nd.1
          · simp [e, ih nd.2 hm]
    rw [key bk h.nd hq]
    rfl
  dsimp only
  rw [lu]
  dsimp only
  obtain ⟨h1, h2, h3, h4, h5⟩ := h.al q hq
  have x1 := lay_e _ (ok_so ho _ _ _ h2)
  have x2 := lay_e _ (ok_so ho _ _ _ h4)
  exact SeqAt.eqv_refl _ (by simp only [PyData.canLay0, PyData.canLayAll0, x1, x2]; rfl)
end Kp

set_option Elab.async false
set_option linter.all false
set_option maxRecDepth 100000
set_option maxHeartbeats 8000000
set_option autoImplicit false
/-! S34: where two things part. -/
namespace Kp
open PySem PySem.Spec PyProof.Rows L2
/-- whether two things part themselves -/
def unl : Th → Th → Bool
  | .var n, .var m => decide (n ≠ m)
  | .nm n, .nm m => decide (n ≠ m)
  | a, b => decide (a.w ≠ b.w)
theorem unl_comm (a b : Th) : unl a b = unl b a := by
  have h : ∀ x y : Str, decide (x ≠ y) = decide (y ≠ x) := fun x y => by
    by_cases e : x = y
    · subst e; rfl
    · have e2 : ¬ y = x := fun z => e z.symm
      simp [e, e2]
  have h2 : ∀ x y : Int, decide (x ≠ y) = decide (y ≠ x) := fun x y => by
    by_cases e : x = y
    · subst e; rfl
    · have e2 : ¬ y = x := fun z => e z.symm
      simp [e, e2]
  cases a <;> cases b <;> simp only [unl] <;> first | exact h _ _ | exact h2 _ _
theorem unl_kids {a b : Th} (h : unl a b = false) : a.kids.length = b.kids.length := by
  cases a with
  | var n => cases b with
    | n0 w => cases w <;> simp [unl] at h
    | n1 w _ => cases w <;> simp [unl] at h
    | n2 w _ _ => cases w <;> simp [unl] at h
    | n3 w _ _ _ => cases w <;> simp [unl] at h
    | _ => first | rfl | simp [unl] at h
  | nm n => cases b with
    | n0 w => cases w <;> simp [unl] at h
    | n1 w _ => cases w <;> simp [unl] at h
    | n2 w _ _ => cases w <;> simp [unl] at h
    | n3 w _ _ _ => cases w <;> simp [unl] at h
    | _ => first | rfl | simp [unl] at h
  | n0 v => cases v <;> cases b with
    | n0 w => rfl
    | n1 w _ => cases w <;> simp [unl] at h
    | n2 w _ _ => cases w <;> simp [unl] at h
    | n3 w _ _ _ => cases w <;> simp [unl] at h
    | _ => simp [unl] at h
  | n1 v _ => cases v <;> cases b with
    | n0 w => cases w <;> simp [unl] at h
    | n1 w _ => rfl
    | n2 w _ _ => cases w <;> simp [unl] at h
    | n3 w _ _ _ => cases w <;> simp [unl] at h
    | _ => simp [unl] at h
  | n2 v _ _ => cases v <;> cases b with
    | n0 w => cases w <;> simp [unl] at h
    | n1 w _ => cases w <;> simp [unl] at h
    | n2 w _ _ => rfl
    | n3 w _ _ _ => cases w <;> simp [unl] at h
    | _ => simp [unl] at h
  | n3 v _ _ _ => cases v <;> cases b with
    | n0 w => cases w <;> simp [unl] at h
    | n1 w _ => cases w <;> simp [unl] at h
    | n2 w _ _ => cases w <;> simp [unl] at h
    | n3 w _ _ _ => rfl
    | _ => simp [unl] at h
  | rc _ _ _ _ => cases b with
    | n0 w => cases w <;> simp [unl] at h
    | n1 w _ => cases w <;> simp [unl] at h
    | n2 w _ _ => cases w <;> simp [unl] at h
    | n3 w _ _ _ => cases w <;> simp [unl] at h
    | rc _ _ _ _ => rfl
    | _ => simp [unl] at h
/-- going along two rows of places -/
def dueL : List (List Int × Th) → List (List Int × Th) → Option (List Int)
  | (p, t) :: r, (_, u) :: r' => if unl t u = true then some p else dueL r r'
  | _, _ => none
abbrev Trip := List Int × Th × Th
def fstT (st : List Trip) : List (List Int × Th) := st.map fun q => (q.1, q.2.1)
def sndT (st : List Trip) : List (List Int × Th) := st.map fun q => (q.1, q.2.2)
def dueS (st : List Trip) : Option (List Int) := dueL (presOf (fstT st)) (presOf (sndT st))
def kidsT (p : List Int) : Nat → List Th → List Th → List Trip
  | n, a :: r, b :: s => (p ++ [(n : Int)], a, b) :: kidsT p (n + 1) r s
  | _, _, _ => []
theorem kidsT_fst (p : List Int) : ∀ (n : Nat) (r s : List Th), r.length = s.length → fstT (kidsT p n r s) = kidsI p n r ∧ sndT (kidsT p n r s) = kidsI p n s
  | _, [], [], _ => ⟨rfl, rfl⟩
  | n, a :: r, b :: s, h => by
    obtain ⟨h1, h2⟩ := kidsT_fst p (n + 1) r s (by simpa using h)
    simp only [fstT, sndT, kidsT, kidsI, List.map_cons] at *
    exact ⟨by rw [h1], by rw [h2]⟩
  | _, [], _ :: _, h => by simp at h
  | _, _ :: _, [], h => by simp at h
theorem presOf_cons (q : List Int × Th) (st : List (List Int × Th)) : presOf (q :: st) = q :: presOf (kidsI q.1 0 q.2.kids ++ st) := by
  have : presOf (q :: st) = q.2.pre q.1 ++ presOf st := by simp [presOf]
  rw [this, pre_eq]
  simp [presOf, List.flatMap_append]
theorem dueS_cons (p : List Int) (t u : Th) (st : List Trip) : dueS ((p, t, u) :: st) = if unl t u = true then some p else dueS (kidsT p 0 t.kids u.kids ++ st) := by
  unfold dueS
  have e1 : fstT ((p, t, u) :: st) = (p, t) :: fstT st := rfl
  have e2 : sndT ((p, t, u) :: st) = (p, u) :: sndT st := rfl
  rw [e1, e2, presOf_cons, presOf_cons, dueL]
  by_cases c : unl t u = true
  · rw [if_pos c, if_pos c]
  · rw [if_neg c, if_neg c]
    have hk := unl_kids (by simpa using c : unl t u = false)
    obtain ⟨a, b⟩ := kidsT_fst p 0 t.kids u.kids hk
    have f1 : fstT (kidsT p 0 t.kids u.kids ++ st) = kidsI p 0 t.kids ++ fstT st := by rw [← a]; simp [fstT]
    have f2 : sndT (kidsT p 0 t.kids u.kids ++ st) = kidsI p 0 u.kids ++ sndT st := by rw [← b]; simp [sndT]
    rw [f1, f2]
def swT (st : List Trip) : List Trip := st.map fun q => (q.1, q.2.2, q.2.1)
theorem kidsT_sw (p : List Int) : ∀ (n : Nat) (r s : List Th), swT (kidsT p n r s) = kidsT p n s r
  | n, a :: r, b :: s => by
    have := kidsT_sw p (n + 1) r s
    simp only [swT, kidsT, List.map_cons] at *
    rw [this]
  | _, [], [] => rfl
  | _, [], _ :: _ => rfl
  | _, _ :: _, [] => rfl
theorem dueS_sw : ∀ (m : Nat) (st : List Trip), szs (fstT st) < m → dueS (swT st) = dueS st
  | 0, _, h => absurd h (Nat.not_lt_zero _)
  | m + 1, [], _ => rfl
  | m + 1, (p, t, u) :: st, h => by
    have e : swT ((p, t, u) :: st) = (p, u, t) :: swT st := rfl
    rw [e, dueS_cons, dueS_cons, unl_comm u t]
    by_cases c : unl t u = true
    · rw [if_pos c, if_pos c]
    · rw [if_neg c, if_neg c]
      have hk := unl_kids (by simpa using c : unl t u = false)
      have ih := dueS_sw m (kidsT p 0 t.kids u.kids ++ st) (by
        have f1 : fstT (kidsT p 0 t.kids u.kids ++ st) = kidsI p 0 t.kids ++ fstT st := by rw [← (kidsT_fst p 0 t.kids u.kids hk).1]; simp [fstT]
        have sz := szs_kids t p
        have : szs (fstT ((p, t, u) :: st)) = t.sz + szs (fstT st) := by simp [fstT, szs]
        rw [f1, szs_app]
        omega)
      rw [← ih]
      simp [swT, ← kidsT_sw p 0 t.kids u.kids]
theorem due_self : ∀ l : List (List Int × Th), dueL l l = none
  | [] => rfl
  | (p, t) :: r => by
    have : unl t t = false := by cases t <;> simp [unl]
    rw [dueL, if_neg (by rw [this]; decide), due_self r]
def oT : Option (List Int) → P
  | some p => .tuple (p.map .int)
  | none => .none
def encTr (q : Trip) : P := .tuple [.tuple (q.1.map .int), q.2.1.e, q.2.2.e]
def SUnlike (c : Cf) : Prop := ∀ (a b : Th) (S : Sto), c [.p a.e, .p b.e] S = .ok (.p (.bool (unl a b))) S
theorem w_vn (t : Th) : (∃ n, t = .var n) ∨ (∃ s, t = .nm s) ∨ (t.w ≠ "var" ∧ t.w ≠ "name") := by
  cases t with
  | var n => exact .inl ⟨n, rfl⟩
  | nm n => exact .inr (.inl ⟨n, rfl⟩)
  | n0 w => cases w <;> exact .inr (.inr (by simp))
  | n1 w a => cases w <;> exact .inr (.inr (by simp))
  | n2 w a b => cases w <;> exact .inr (.inr (by simp))
  | n3 w a b c => cases w <;> exact .inr (.inr (by simp))
  | rc a b c d => exact .inr (.inr (by simp))
theorem unl_w {a b : Th} (h : a.w ≠ "var") (h2 : a.w ≠ "name") : unl a b = decide (a.w ≠ b.w) := by
  cases a with
  | var n => exact absurd rfl h
  | nm n => exact absurd rfl h2
  | _ => rfl
section
variable {cl : Cl} {kk ku : Nat}
theorem unlike_ok : SUnlike (runD cl 2 2 m_unlike) := by
  intro a b S
  unfold m_unlike
  rcases w_vn a with ⟨n, rfl⟩ | ⟨n, rfl⟩ | ⟨h1, h2⟩
  · rcases w_vn b with ⟨m, rfl⟩ | ⟨m, rfl⟩ | ⟨g1, g2⟩
    · by_cases c : n = m <;> simp [runD, unl, c]
    · simp [runD, unl]
    · have g1' : ¬ Str.ofString "var" = b.w := fun z => g1 z.symm
      rw [unl_comm, unl_w g1 g2]
      simp [runD, g1', g1]
  · rcases w_vn b with ⟨m, rfl⟩ | ⟨m, rfl⟩ | ⟨g1, g2⟩
    · simp [runD, unl]
    · by_cases c : n = m <;> simp [runD, unl, c]
    · have g1' : ¬ Str.ofString "name" = b.w := fun z => g2 z.symm
      rw [unl_comm, unl_w g1 g2]
      simp [runD, g1', g2]
  · rw [unl_w h1 h2]
    have k1 : ¬ Str.ofString "var" = a.w := fun z => h1 z.symm
    have k2 : ¬ Str.ofString "name" = a.w := fun z => h2 z.symm
    by_cases c : a.w = b.w
    · have k3 : ¬ Str.ofString "var" = b.w := fun z => k1 (z.trans c.symm)
      have k4 : ¬ Str.ofString "name" = b.w := fun z => k2 (z.trans c.symm)
      simp [runD, c, k3, k4]
    · simp [runD, c]
theorem lunlike_ok : SUnlike (runD cl 2 2 m_l_unlike) := unlike_ok
end
@[simp] theorem tgV_3 {i j k : Nat} {x y z : P} {en : En} : tgV (.tp [i, j, k]) (.p (.tuple [x, y, z])) en = some (((en.set i (some (.p x))).set j (some (.p y))).set k (some (.p z))) := id rfl
def pushP : Sms := (.cons (.ex (.mth .append (.v 2) (.cons (.tup (.cons (.bin .add (.v 3) (.tup (.cons (.v 8) .nil))) (.cons (.ix (.v 6) (.v 8)) (.cons (.ix (.v 7) (.v 8)) .nil)))) .nil))) .nil)
section
variable {cl : Cl} {kk ku : Nat}
theorem push_part {th ot here there : Option PV} {w kc oc : Nat} {p : List Int} (ks os : List Th) (hk : ks.length ≤ 4) (ho : ks.length = os.length) (W : List P) (v8 : Option PV) (S : Sto) (hw : S[w]? = some (.lst W)) (hkc : S[kc]? = some (.lst (ks.map Th.e))) (hoc : S[oc]? = some (.lst (os.map Th.e))) (ne : w ≠ kc) (ne2 : w ≠ oc) (hp : p.length ≤ 2000) (hW : W.length ≤ 900000) :
    ∃ a, forL (.nm 8) [] (exss cl pushP) (((List.range ks.length).map fun (k : Nat) => PV.p (.int (0 + (k : Int)))).reverse) [th, ot, some (.loc w), some (.p (.tuple (p.map .int))), here, there, some (.loc kc), some (.loc oc), v8] S =
      .nx [th, ot, some (.loc w), some (.p (.tuple (p.map .int))), here, there, some (.loc kc), some (.loc oc), a] (S.set w (.lst (W ++ ((kidsT p 0 ks os).reverse.map encTr)))) := by
  have hi := has_of hw
  have hpl : p.length + 1 ≤ 1000000 := by omega
  have w0 : W.length < 1000000 := by omega
  have w1 : W.length + 1 < 1000000 := by omega
  have w2 : W.length + 2 < 1000000 := by omega
  have w3 : W.length + 3 < 1000000 := by omega
  have kne : ∀ c, (S.set w c)[kc]? = some (.lst (ks.map Th.e)) := fun c => by rw [List.getElem?_set_ne ne]; exact hkc
  have one : ∀ c, (S.set w c)[oc]? = some (.lst (os.map Th.e)) := fun c => by rw [List.getElem?_set_ne ne2]; exact hoc
  unfold pushP
  match ks, os, hk, ho with
  | [], [], _, _ => exact ⟨v8, by simp [kidsT, set_same hw]⟩
  | [a], [a'], _, _ =>
    simp at hkc kne hoc one
    exact ⟨_, by simp [rg1, for_cons0, hkc, kne, hoc, one, hw, hi, hpl, w0, kidsT, encTr]; try exact rfl⟩
  | [a, b], [a', b'], _, _ =>
    simp at hkc kne hoc one
    exact ⟨_, by simp [rg2, for_cons0, hkc, kne, hoc, one, hw, hi, hpl, w0, w1, kidsT, encTr]; try exact rfl⟩
  | [a, b, c], [a', b', c'], _, _ =>
    simp at hkc kne hoc one
    exact ⟨_, by simp [rg3, for_cons0, hkc, kne, hoc, one, hw, hi, hpl, w0, w1, w2, kidsT, encTr]; try exact rfl⟩
  | [a, b, c, d], [a', b', c', d'], _, _ =>
    simp at hkc kne hoc one
    exact ⟨_, by simp [rg4, for_cons0, hkc, kne, hoc, one, hw, hi, hpl, w0, w1, w2, w3, kidsT, encTr]; try exact rfl⟩
  | _ :: _ :: _ :: _ :: _ :: _, _, h, _ => simp at h
def partB (kk ku : Nat) : Sms := (.cons (.asg (.tp [3, 4, 5]) (.mth .pop0 (.v 2) .nil))
    (.cons (.ift (.call ku (.cons (.v 4) (.cons (.v 5) .nil))) (.cons (.ret (.v 3))
    .nil) .nil)
    (.cons (.asg (.nm 6) (.call kk (.cons (.v 4) .nil)))
    (.cons (.asg (.nm 7) (.call kk (.cons (.v 5) .nil)))
    (.cons (.for' (.nm 8) (.revR (.bi .len (.cons (.v 6) .nil))) pushP)
    .nil)))))
theorem part_turn {th ot v3 v4 v5 v6 v7 v8 : Option PV} {w n : Nat} {p : List Int} {t u : Th} {rest : List Trip} {S : Sto} (hu : SUnlike (cl ku)) (hk : SKids (cl kk)) (hw : S[w]? = some (.lst ((((p, t, u) :: rest).reverse).map encTr)))
    (hn : n ≤ S.length) (nw : n ≤ w) (hrest : rest.length ≤ 900000) (hp : p.length ≤ 2000) :
    (unl t u = true → ∃ S', exss cl (partB kk ku) [th, ot, some (.loc w), v3, v4, v5, v6, v7, v8] S = .rt (.p (.tuple (p.map .int))) S' ∧ Ag n S S') ∧
    (unl t u = false → ∃ u3 u4 u5 u6 u7 u8 S', exss cl (partB kk ku) [th, ot, some (.loc w), v3, v4, v5, v6, v7, v8] S = .nx [th, ot, some (.loc w), u3, u4, u5, u6, u7, u8] S' ∧ Ag n S S' ∧ S'[w]? = some (.lst (((kidsT p 0 t.kids u.kids ++ rest).reverse).map encTr))) := by
  have hwi := has_of hw
  have e0 : (((p, t, u) :: rest).reverse).map encTr = (rest.reverse.map encTr) ++ [encTr (p, t, u)] := by simp
  rw [e0] at hw
  have pp := pop_last hw
  generalize hS1 : S.set w (.lst (rest.reverse.map encTr)) = S1 at *
  have h1w : S1[w]? = some (.lst (rest.reverse.map encTr)) := by rw [← hS1]; exact set_at hwi
  have ag1 : Ag n S S1 := by rw [← hS1]; exact (Ag.refl hn).set nw
  have eu := hu t u S1
  have ppe : mtV .pop0 (.loc w) [] S = .ok (.p (.tuple [.tuple (p.map .int), t.e, u.e])) S1 := pp
  refine ⟨fun c => ⟨S1, ?_, ag1⟩, fun c => ?_⟩
  · unfold partB
    simp [hw, ppe, eu, c]
  · have e1 := hk t S1
    have e2 := hk u (S1 ++ [.lst (t.kids.map Th.e)])
    have h3w : (S1 ++ [.lst (t.kids.map Th.e), .lst (u.kids.map Th.e)])[w]? = some (.lst (rest.reverse.map encTr)) := by rw [at_old (has_of h1w)]; exact h1w
    have wl : w < S1.length := getE_lt h1w
    obtain ⟨a, e3⟩ := push_part (cl := cl) (th := th) (ot := ot) (here := some (.p t.e)) (there := some (.p u.e)) (kc := S1.length) (oc := S1.length + 1) (p := p) t.kids u.kids (kids_few t) (unl_kids c) (rest.reverse.map encTr) v8 (S1 ++ [.lst (t.kids.map Th.e), .lst (u.kids.map Th.e)]) h3w (by simp) (by simp) (by omega) (by omega) hp (by simp; omega)
    have few := kids_few t
    have hb : ((t.kids.length : Nat) : Int) < 4611686018427387904 := by omega
    refine ⟨some (.p (.tuple (p.map .int))), some (.p t.e), some (.p u.e), some (.loc S1.length), some (.loc (S1.length + 1)), a, (S1 ++ [Cell.lst (t.kids.map Th.e), Cell.lst (u.kids.map Th.e)]).set w (Cell.lst (rest.reverse.map encTr ++ (kidsT p 0 t.kids u.kids).reverse.map encTr)), ?_, (ag1.app).set nw, set_at (has_of h3w) |>.trans (by simp)⟩
    unfold partB
    simp [hw, ppe, eu, c, e1, e2, hb]
    simp at e3
    rw [e3]
    simp
    try exact ⟨rfl, rfl, rfl, rfl, rfl, rfl⟩
end
end Kp

set_option Elab.async false
set_option linter.all false
set_option maxRecDepth 100000
set_option maxHeartbeats 8000000
set_option autoImplicit false
/-! S35: parting, run; what is due by the law. -/
namespace Kp
open PySem PySem.Spec PyProof.Rows L2
section
variable {cl : Cl} {kk ku : Nat}
theorem part_while {th ot : Option PV} {w n : Nat} (hu : SUnlike (cl ku)) (hk : SKids (cl kk)) (nw : n ≤ w) : ∀ (m : Nat) (st : List Trip) (v3 v4 v5 v6 v7 v8 : Option PV) (S : Sto), szs (fstT st) < m → szs (fstT st) ≤ 90000 → (∀ q ∈ st, q.1.length + q.2.1.dp ≤ 1000) →
    n ≤ S.length → S[w]? = some (.lst (st.reverse.map encTr)) →
    ∃ S', Ag n S S' ∧ match dueS st with
      | some p => whileL (evT cl (.cmp .gt (.bi .len (.cons (.v 2) .nil)) (.c (.int 0)))) (exss cl (partB kk ku)) m [th, ot, some (.loc w), v3, v4, v5, v6, v7, v8] S = .rt (.p (.tuple (p.map .int))) S'
      | none => ∃ en, whileL (evT cl (.cmp .gt (.bi .len (.cons (.v 2) .nil)) (.c (.int 0)))) (exss cl (partB kk ku)) m [th, ot, some (.loc w), v3, v4, v5, v6, v7, v8] S = .nx en S'
  | 0, st, v3, v4, v5, v6, v7, v8, S, h, _, _, _, _ => absurd h (Nat.not_lt_zero _)
  | m + 1, [], v3, v4, v5, v6, v7, v8, S, h, h2, h3, hn, hw => by
    refine ⟨S, Ag.refl hn, [th, ot, some (.loc w), v3, v4, v5, v6, v7, v8], ?_⟩
    rw [whileL]
    simp [hw]
  | m + 1, (p, t, u) :: rest, v3, v4, v5, v6, v7, v8, S, h, h2, h3, hn, hw => by
    have hz : szs (fstT ((p, t, u) :: rest)) = t.sz + szs (fstT rest) := by simp [szs, fstT]
    have hk1 := szs_kids t p
    have ls := len_szs (fstT rest)
    have ll : (fstT rest).length = rest.length := by simp [fstT]
    have hp := h3 (p, t, u) List.mem_cons_self
    simp only at hp
    have dpt := dp_pos t
    obtain ⟨c1, c2⟩ := part_turn (th := th) (ot := ot) (v3 := v3) (v4 := v4) (v5 := v5) (v6 := v6) (v7 := v7) (v8 := v8) (cl := cl) hu hk hw hn nw (by omega) (by omega)
    have g : evT cl (.cmp .gt (.bi .len (.cons (.v 2) .nil)) (.c (.int 0))) [th, ot, some (.loc w), v3, v4, v5, v6, v7, v8] S = .ok true S := by
      simp [hw]
    rw [dueS_cons]
    cases c : unl t u with
    | true =>
      obtain ⟨S', e, ag⟩ := c1 c
      refine ⟨S', ag, ?_⟩
      rw [if_pos rfl]
      show whileL _ _ (m + 1) _ S = _
      rw [whileL, g, st_ok, if_pos rfl, e]
    | false =>
      obtain ⟨u3, u4, u5, u6, u7, u8, S1, e, ag, a1⟩ := c2 c
      have hkk := unl_kids c
      have f1 : fstT (kidsT p 0 t.kids u.kids ++ rest) = kidsI p 0 t.kids ++ fstT rest := by rw [← (kidsT_fst p 0 t.kids u.kids hkk).1]; simp [fstT]
      obtain ⟨S2, ag2, r⟩ := part_while (th := th) (ot := ot) hu hk nw m (kidsT p 0 t.kids u.kids ++ rest) u3 u4 u5 u6 u7 u8 S1 (by rw [f1, szs_app]; omega) (by rw [f1, szs_app]; omega) (fun q hq => by
        rcases List.mem_append.mp hq with hq | hq
        · have hq' : (q.1, q.2.1) ∈ kidsI p 0 t.kids := by
            rw [← (kidsT_fst p 0 t.kids u.kids hkk).1]
            exact List.mem_map.mpr ⟨q, hq, rfl⟩
          cases hd : t.dp with
          | zero => omega
          | succ d =>
            have := kidsI_pl p (d := d) 0 t.kids (kids_dp t (by omega)) _ hq'
            simp only at this; omega
        · exact h3 q (List.mem_cons_of_mem _ hq)) ag.le a1
      refine ⟨S2, ag.trans ag2, ?_⟩
      rw [if_neg (by decide)]
      have ew : whileL (evT cl (.cmp .gt (.bi .len (.cons (.v 2) .nil)) (.c (.int 0)))) (exss cl (partB kk ku)) (m + 1) [th, ot, some (.loc w), v3, v4, v5, v6, v7, v8] S = whileL (evT cl (.cmp .gt (.bi .len (.cons (.v 2) .nil)) (.c (.int 0)))) (exss cl (partB kk ku)) m [th, ot, some (.loc w), u3, u4, u5, u6, u7, u8] S1 := by
        rw [whileL, g, st_ok, if_pos rfl, e]
      cases hd : dueS (kidsT p 0 t.kids u.kids ++ rest) with
      | some q =>
        rw [hd] at r
        dsimp only at r ⊢
        rw [ew]; exact r
      | none =>
        rw [hd] at r
        dsimp only at r ⊢
        rw [ew]; exact r
/-- the first place at which two things part -/
def partP (t u : Th) : Option (List Int) := dueL (t.pre []) (u.pre [])
theorem partP_sw (t u : Th) : partP u t = partP t u := by
  have h := dueS_sw (t.sz + 1) [([], t, u)] (by simp [szs, fstT])
  have e1 : dueS (swT [([], t, u)]) = partP u t := by simp [dueS, swT, fstT, sndT, presOf, partP]
  have e2 : dueS [([], t, u)] = partP t u := by simp [dueS, fstT, sndT, presOf, partP]
  rw [← e1, ← e2, h]
theorem partP_self (t : Th) : partP t t = none := due_self _
def SPart (c : Cf) : Prop := ∀ (t u : Th) (S : Sto), t.dp ≤ 900 → t.sz ≤ 90000 → c [.p t.e, .p u.e] S = .ok (.p (oT (partP t u))) S
theorem part_ok (hu : SUnlike (cl ku)) (hk : SKids (cl kk)) : SPart (runD cl 2 9 (m_parting kk ku)) := by
  intro t u S hd hz
  obtain ⟨S', ag, r⟩ := part_while (th := some (.p t.e)) (ot := some (.p u.e)) (w := S.length) (n := S.length) (cl := cl) hu hk (Nat.le_refl _) WL [([], t, u)] none none none none none none (S ++ [.lst [encTr ([], t, u)]]) (by simp only [szs, fstT, WL, List.map_cons, List.map_nil, List.sum_cons, List.sum_nil]; omega) (by simp only [szs, fstT, List.map_cons, List.map_nil, List.sum_cons, List.sum_nil]; omega) (fun q hq => by
    simp only [List.mem_singleton] at hq; subst hq; simp only [List.length_nil]; omega) (by simp) (by simp)
  have ag' : Ag S.length S S' := ((Ag.refl (Nat.le_refl _)).app).trans ag
  have tk := ag'.take
  have e2 : dueS [([], t, u)] = partP t u := by simp [dueS, fstT, sndT, presOf, partP]
  rw [e2] at r
  have enc0 : encTr ([], t, u) = .tuple [.tuple [], t.e, u.e] := rfl
  rw [enc0] at r
  unfold m_parting
  unfold partB pushP at r
  cases hp : partP t u with
  | some p =>
    rw [hp] at r
    dsimp only at r
    simp [runD]
    try simp at r
    rw [r]
    simp [oT, tk]
  | none =>
    rw [hp] at r
    dsimp only at r
    obtain ⟨en, r⟩ := r
    simp [runD]
    try simp at r
    rw [r]
    simp [oT, tk]
def SDue5 (c : Cf) : Prop := ∀ (t u : Th) (S : Sto), t.dp ≤ 900 → t.sz ≤ 90000 → u.dp ≤ 900 → u.sz ≤ 90000 → c [.p t.e, .p u.e] S = .ok (.p (oT (partP t u))) S
theorem due_loop {th ot : Option PV} {a b : Nat} {l1 l2 : List (List Int × Th)} {S : Sto} (hu : SUnlike (cl ku)) (h1 : S[a]? = some (.lst (l1.map (rowP [])))) (h2 : S[b]? = some (.lst (l2.map (rowP [])))) :
    ∀ (k c : Nat) (v : Option PV), k + c = min l1.length l2.length →
      ∃ v', forL (.nm 4) [] (exss cl (.cons (.ift (.call ku (.cons (.ix (.ix (.v 2) (.v 4)) (.c (.int 1))) (.cons (.ix (.ix (.v 3) (.v 4)) (.c (.int 1))) .nil))) (.cons (.ret (.ix (.ix (.v 2) (.v 4)) (.c (.int 0))))
    .nil) .nil)
    .nil)) ((List.range' c k).map fun (x : Nat) => PV.p (.int (0 + (x : Int)))) [th, ot, some (.loc a), some (.loc b), v] S =
        match dueL (l1.drop c) (l2.drop c) with
        | some p => .rt (.p (.tuple (p.map .int))) S
        | none => .nx [th, ot, some (.loc a), some (.loc b), v'] S
  | 0, c, v, h => by
    refine ⟨v, ?_⟩
    have e : dueL (l1.drop c) (l2.drop c) = none := by
      have : l1.drop c = [] ∨ l2.drop c = [] := by
        have : c = l1.length ∨ c = l2.length := by omega
        rcases this with rfl | rfl
        · exact .inl (by simp)
        · exact .inr (by simp)
      rcases this with h | h <;> rw [h]
      · rfl
      · cases l1.drop c <;> rfl
    rw [e]
    simp
  | k + 1, c, v, h => by
    have c1 : c < l1.length := by omega
    have c2 : c < l2.length := by omega
    obtain ⟨v', r⟩ := due_loop (th := th) (ot := ot) hu h1 h2 k (c + 1) (some (.p (.int (0 + (c : Int))))) (by omega)
    refine ⟨v', ?_⟩
    have g1 : (l1.map (rowP []))[c]? = some (rowP [] l1[c]) := by rw [List.getElem?_map, List.getElem?_eq_getElem c1]; rfl
    have g2 : (l2.map (rowP []))[c]? = some (rowP [] l2[c]) := by rw [List.getElem?_map, List.getElem?_eq_getElem c2]; rfl
    have eu := hu l1[c].2 l2[c].2 S
    rw [List.drop_eq_getElem_cons c1, List.drop_eq_getElem_cons c2, dueL]
    rw [List.range'_succ, List.map_cons, for_cons0]
    cases q : unl l1[c].2 l2[c].2 with
    | true =>
      rw [if_pos rfl]
      simp [h1, h2, ix_n, g1, g2, rowP, eu, q]
    | false =>
      rw [if_neg (by decide)]
      rw [← r]
      simp [h1, h2, ix_n, g1, g2, rowP, eu, q]
theorem due5_ok {kr : Nat} (hu : SUnlike (cl ku)) (hr : SRows (cl kr)) : SDue5 (runD cl 2 5 (m_l_due_v5 ku kr)) := by
  intro t u S h1 h2 h3 h4
  have e1 := hr t (S ++ [.dct []]) S.length [] (by simp [encB]) h1 h2
  have e2 := hr u (S ++ [.dct []] ++ [.lst ((t.pre []).map (rowP []))] ++ [.dct []]) (S.length + 2) [] (by simp [encB]) h3 h4
  obtain ⟨v', r⟩ := due_loop (th := some (.p t.e)) (ot := some (.p u.e)) (a := S.length + 1) (b := S.length + 3) (l1 := t.pre []) (l2 := u.pre []) (cl := cl) (S := S ++ [.dct [], .lst ((t.pre []).map (rowP [])), .dct [], .lst ((u.pre []).map (rowP []))]) hu (by simp) (by simp) (min (t.pre []).length (u.pre []).length) 0 none (by omega)
  rw [List.drop_zero, List.drop_zero, ← List.range_eq_range'] at r
  have pe : dueL (t.pre []) (u.pre []) = partP t u := rfl
  rw [pe] at r
  have l1 := pre_len t []
  have l2 := pre_len u []
  have hmin : (if (u.pre []).length < (t.pre []).length then ((u.pre []).length : Int) else ((t.pre []).length : Int)) = ((min (t.pre []).length (u.pre []).length : Nat) : Int) := by
    split <;> omega
  have hb : ((min (t.pre []).length (u.pre []).length : Nat) : Int) < 4611686018427387904 := by omega
  generalize min (t.pre []).length (u.pre []).length = mm at *
  generalize ha : (t.pre []).map (rowP []) = rt at *
  generalize hb' : (u.pre []).map (rowP []) = ru at *
  have la : rt.length = (t.pre []).length := by rw [← ha]; simp
  have lb : ru.length = (u.pre []).length := by rw [← hb']; simp
  rw [← la, ← lb] at hmin
  unfold m_l_due_v5
  simp at e1 e2 r
  simp [runD, e1, e2, hmin, hb]
  rw [r]
  cases hp : partP t u with
  | some p => simp [oT]
  | none => simp [oT]
end
end Kp

set_option Elab.async false
set_option linter.all false
set_option maxRecDepth 100000
set_option maxHeartbeats 8000000
set_option autoImplicit false
/-! S36: places; another thing at a place. -/
namespace Kp
open PySem PySem.Spec PyProof.Rows L2
def Th.kidI (t : Th) (i : Int) : Option Th := if 0 ≤ i then t.kids[i.toNat]? else none
def Th.setK (t : Th) (n : Nat) (k : Th) : Th := match t with
  | .n1 w a => .n1 w (if n = 0 then k else a)
  | .n2 w a b => .n2 w (if n = 0 then k else a) (if n = 1 then k else b)
  | .n3 w a b c => .n3 w (if n = 0 then k else a) (if n = 1 then k else b) (if n = 2 then k else c)
  | .rc a b c d => .rc (if n = 0 then k else a) (if n = 1 then k else b) (if n = 2 then k else c) (if n = 3 then k else d)
  | t => t
def Th.atP : List Int → Th → Option Th
  | [], t => some t
  | i :: p, t => match t.kidI i with
    | some k => Th.atP p k
    | none => none
def Th.wtP : List Int → Th → Th → Th
  | [], _, u => u
  | i :: p, t, u => match t.kidI i with
    | some k => t.setK i.toNat (Th.wtP p k u)
    | none => t
theorem kidI_0 {t : Th} : t.kidI 0 = t.kids[0]? := rfl
theorem kidI_1 {t : Th} : t.kidI 1 = t.kids[1]? := rfl
theorem kidI_2 {t : Th} : t.kidI 2 = t.kids[2]? := rfl
theorem kidI_3 {t : Th} : t.kidI 3 = t.kids[3]? := rfl
/-- what stands in the row of places stands there -/
theorem pre_at : ∀ (t : Th) (p q : List Int) (u : Th), (q, u) ∈ t.pre p → ∃ r, q = p ++ r ∧ Th.atP r t = some u ∧ r.length + u.dp ≤ t.dp
  | .var n, p, q, u, h => by
    simp only [Th.pre, List.mem_singleton, Prod.mk.injEq] at h
    obtain ⟨rfl, rfl⟩ := h
    exact ⟨[], by simp, rfl, by simp⟩
  | .nm n, p, q, u, h => by
    simp only [Th.pre, List.mem_singleton, Prod.mk.injEq] at h
    obtain ⟨rfl, rfl⟩ := h
    exact ⟨[], by simp, rfl, by simp⟩
  | .n0 n, p, q, u, h => by
    simp only [Th.pre, List.mem_singleton, Prod.mk.injEq] at h
    obtain ⟨rfl, rfl⟩ := h
    exact ⟨[], by simp, rfl, by simp⟩
  | .n1 w a, p, q, u, h => by
    simp only [Th.pre, List.mem_cons, Prod.mk.injEq] at h
    rcases h with ⟨rfl, rfl⟩ | h
    · exact ⟨[], by simp, rfl, by simp⟩
    · obtain ⟨r, rfl, e, l⟩ := pre_at a _ _ _ h
      exact ⟨0 :: r, by simp, by rw [Th.atP, kidI_0]; exact e, by simp only [List.length_cons, Th.dp]; omega⟩
  | .n2 w a b, p, q, u, h => by
    simp only [Th.pre, List.mem_cons, List.mem_append, Prod.mk.injEq] at h
    rcases h with ⟨rfl, rfl⟩ | h | h
    · exact ⟨[], by simp, rfl, by simp⟩
    · obtain ⟨r, rfl, e, l⟩ := pre_at a _ _ _ h
      exact ⟨0 :: r, by simp, by rw [Th.atP, kidI_0]; exact e, by simp only [List.length_cons, Th.dp]; omega⟩
    · obtain ⟨r, rfl, e, l⟩ := pre_at b _ _ _ h
      exact ⟨1 :: r, by simp, by rw [Th.atP, kidI_1]; exact e, by simp only [List.length_cons, Th.dp]; omega⟩
  | .n3 w a b c, p, q, u, h => by
    simp only [Th.pre, List.mem_cons, List.mem_append, Prod.mk.injEq] at h
    rcases h with ⟨rfl, rfl⟩ | h | h | h
    · exact ⟨[], by simp, rfl, by simp⟩
    · obtain ⟨r, rfl, e, l⟩ := pre_at a _ _ _ h
      exact ⟨0 :: r, by simp, by rw [Th.atP, kidI_0]; exact e, by simp only [List.length_cons, Th.dp]; omega⟩
    · obtain ⟨r, rfl, e, l⟩ := pre_at b _ _ _ h
      exact ⟨1 :: r, by simp, by rw [Th.atP, kidI_1]; exact e, by simp only [List.length_cons, Th.dp]; omega⟩
    · obtain ⟨r, rfl, e, l⟩ := pre_at c _ _ _ h
      exact ⟨2 :: r, by simp, by rw [Th.atP, kidI_2]; exact e, by simp only [List.length_cons, Th.dp]; omega⟩
  | .rc a b c d, p, q, u, h => by
    simp only [Th.pre, List.mem_cons, List.mem_append, Prod.mk.injEq] at h
    rcases h with ⟨rfl, rfl⟩ | h | h | h | h
    · exact ⟨[], by simp, rfl, by simp⟩
    · obtain ⟨r, rfl, e, l⟩ := pre_at a _ _ _ h
      exact ⟨0 :: r, by simp, by rw [Th.atP, kidI_0]; exact e, by simp only [List.length_cons, Th.dp]; omega⟩
    · obtain ⟨r, rfl, e, l⟩ := pre_at b _ _ _ h
      exact ⟨1 :: r, by simp, by rw [Th.atP, kidI_1]; exact e, by simp only [List.length_cons, Th.dp]; omega⟩
    · obtain ⟨r, rfl, e, l⟩ := pre_at c _ _ _ h
      exact ⟨2 :: r, by simp, by rw [Th.atP, kidI_2]; exact e, by simp only [List.length_cons, Th.dp]; omega⟩
    · obtain ⟨r, rfl, e, l⟩ := pre_at d _ _ _ h
      exact ⟨3 :: r, by simp, by rw [Th.atP, kidI_3]; exact e, by simp only [List.length_cons, Th.dp]; omega⟩
/-- a kid, told by cases -/
theorem kidI_cases {t k : Th} {i : Int} (h : t.kidI i = some k) : (i = 0 ∨ i = 1 ∨ i = 2 ∨ i = 3) ∧ i.toNat < t.kids.length ∧ t.kids[i.toNat]? = some k := by
  unfold Th.kidI at h
  split at h
  · have l := getE_lt h
    have f := kids_few t
    exact ⟨by omega, l, h⟩
  · cases h
theorem if_vs {t u : Th} {q : Prop} [Decidable q] (h : t.vs) (hu : u.vs) : (if q then u else t).vs := by split <;> assumption
theorem if_dp {t u : Th} {q : Prop} [Decidable q] {d : Nat} (h : t.dp ≤ d) (hu : u.dp ≤ d) : (if q then u else t).dp ≤ d := by split <;> assumption
theorem setK_vs {t u : Th} {n : Nat} (h : t.vs) (hu : u.vs) : (t.setK n u).vs := by
  cases t with
  | n1 w a => exact if_vs h hu
  | n2 w a b => exact ⟨if_vs h.1 hu, if_vs h.2 hu⟩
  | n3 w a b c => exact ⟨if_vs h.1 hu, if_vs h.2.1 hu, if_vs h.2.2 hu⟩
  | rc a b c d => exact ⟨if_vs h.1 hu, if_vs h.2.1 hu, if_vs h.2.2.1 hu, if_vs h.2.2.2 hu⟩
  | _ => exact h
theorem setK_dp {t u : Th} {n d : Nat} (h : t.dp ≤ d + 1) (hu : u.dp ≤ d) : (t.setK n u).dp ≤ d + 1 := by
  cases t with
  | n1 w a =>
    simp only [Th.dp] at h
    have := if_dp (q := n = 0) (t := a) (d := d) (by omega) hu
    simp only [Th.setK, Th.dp]; omega
  | n2 w a b =>
    simp only [Th.dp] at h
    have := if_dp (q := n = 0) (t := a) (d := d) (by omega) hu
    have := if_dp (q := n = 1) (t := b) (d := d) (by omega) hu
    simp only [Th.setK, Th.dp]; omega
  | n3 w a b c =>
    simp only [Th.dp] at h
    have := if_dp (q := n = 0) (t := a) (d := d) (by omega) hu
    have := if_dp (q := n = 1) (t := b) (d := d) (by omega) hu
    have := if_dp (q := n = 2) (t := c) (d := d) (by omega) hu
    simp only [Th.setK, Th.dp]; omega
  | rc a b c e =>
    simp only [Th.dp] at h
    have := if_dp (q := n = 0) (t := a) (d := d) (by omega) hu
    have := if_dp (q := n = 1) (t := b) (d := d) (by omega) hu
    have := if_dp (q := n = 2) (t := c) (d := d) (by omega) hu
    have := if_dp (q := n = 3) (t := e) (d := d) (by omega) hu
    simp only [Th.setK, Th.dp]; omega
  | _ => exact h
theorem kid_vs {t k : Th} {n : Nat} (h : t.vs) (e : t.kids[n]? = some k) : k.vs := kids_vs t h k (List.mem_of_getElem? e)
theorem wtP_vs : ∀ (p : List Int) (t u : Th), t.vs → u.vs → (Th.wtP p t u).vs
  | [], _, _, _, h => h
  | i :: p, t, u, h1, h2 => by
    rw [Th.wtP]
    cases e : t.kidI i with
    | none => exact h1
    | some k =>
      obtain ⟨_, _, e2⟩ := kidI_cases e
      exact setK_vs h1 (wtP_vs p k u (kid_vs h1 e2) h2)
theorem wtP_dp : ∀ (p : List Int) (t u : Th), (Th.wtP p t u).dp ≤ t.dp + u.dp
  | [], t, u => by show u.dp ≤ _; omega
  | i :: p, t, u => by
    rw [Th.wtP]
    cases e : t.kidI i with
    | none => show t.dp ≤ _; omega
    | some k =>
      obtain ⟨_, _, e2⟩ := kidI_cases e
      have ih := wtP_dp p k u
      have hp := dp_pos t
      have hk : k.dp ≤ t.dp - 1 := kids_dp t (d := t.dp - 1) (by omega) k (List.mem_of_getElem? e2)
      have := setK_dp (t := t) (u := Th.wtP p k u) (n := i.toNat) (d := t.dp - 1 + u.dp) (by omega) (by omega)
      dsimp only
      omega
theorem cut_to {α : Type} {xs : List α} (n : Nat) : cutP xs none (some (n : Int)) = xs.take n := by
  unfold cutP
  rw [HT.sIx_nat, HT.sIx_none]
  simp
theorem cut_from {α : Type} {xs : List α} (n : Nat) : cutP xs (some (n : Int)) none = xs.drop n := by
  unfold cutP
  rw [HT.sIx_nat, HT.sIx_none]
  rcases Nat.lt_or_ge xs.length n with h | h
  · rw [Nat.min_eq_right (by omega), List.drop_length, List.drop_of_length_le (by omega)]
    simp
  · rw [Nat.min_eq_left h, List.take_of_length_le (by simp)]
end Kp

set_option Elab.async false
set_option linter.all false
set_option maxRecDepth 100000
set_option maxHeartbeats 8000000
set_option autoImplicit false
/-! S39: what stands at a place. -/
namespace Kp
open PySem PySem.Spec PyProof.Rows L2
def encI (p : List Int) : P := .tuple (p.map .int)
section
variable {cl : Cl} {kk : Nat}
def SKidAt (c : Cf) (x : Nat) : Prop := ∀ (t : Th) (i : Int) (S : Sto), c [.p t.e, .p (.int i)] S = match t.kidI i with
  | some k => .ok (.p k.e) S
  | none => .ex x S
theorem kidat_ok {x : Nat} (hk : SKids (cl kk)) : SKidAt (runD cl 2 3 (m_kid_at kk x)) x := by
  intro t i S
  have hk' := fun S => hk t S
  have rg := kids_few t
  unfold m_kid_at Th.kidI
  by_cases h0 : 0 ≤ i
  · rw [if_pos h0]
    obtain ⟨n, rfl⟩ : ∃ n : Nat, i = (n : Int) := ⟨i.toNat, by omega⟩
    rw [Int.toNat_natCast]
    by_cases h1 : n < t.kids.length
    · have h2 : ¬ ((t.kids.length : Int) ≤ (n : Int)) := by omega
      have hn : ¬ ((n : Int) < 0) := by omega
      rw [List.getElem?_eq_getElem h1]
      simp [runD, hk', h1, h2, hn, ix_n]
    · have h2 : ((t.kids.length : Int) ≤ (n : Int)) := by omega
      have hn : ¬ ((n : Int) < 0) := by omega
      rw [List.getElem?_eq_none (by omega)]
      simp [runD, hk', h2, hn]
  · have h2 : i < 0 := by omega
    rw [if_neg h0]
    simp [runD, hk', h2]
def SAt (c : Cf) (x : Nat) : Prop := ∀ (p : List Int) (t : Th) (S : Sto), c [.p t.e, .p (encI p)] S = match Th.atP p t with
  | some k => .ok (.p k.e) S
  | none => .ex x S
theorem kidI_neg {t : Th} {i : Int} (h : ¬ 0 ≤ i) : t.kidI i = none := if_neg h
theorem kidI_nat {t : Th} {n : Nat} : t.kidI (n : Int) = t.kids[n]? := by
  unfold Th.kidI
  rw [if_pos (by omega), Int.toNat_natCast]
theorem atP_c {i : Int} {p : List Int} {t : Th} : Th.atP (i :: p) t = match t.kidI i with
    | some k => Th.atP p k
    | none => none := rfl
theorem at_loop {ka x : Nat} {pl : Option PV} (hk : SKidAt (cl ka) x) : ∀ (p : List Int) (t : Th) (v2 : Option PV) (S : Sto), ∃ (v2' : Option PV) (en : En),
    forL (.nm 2) [] (exss cl (.cons (.asg (.nm 0) (.call ka (.cons (.v 0) (.cons (.v 2) .nil)))) .nil)) (p.map (PV.p ∘ PyData.int)) [some (.p t.e), pl, v2] S = match Th.atP p t with
    | some k => .nx [some (.p k.e), pl, v2'] S
    | none => .ex x en S
  | [], t, v2, S => ⟨v2, [], by simp [Th.atP]⟩
  | i :: p, t, v2, S => by
    have e := hk t i S
    rw [List.map_cons, Function.comp_apply, for_cons0, tgV_n, kTg_, atP_c]
    cases q : t.kidI i with
    | none =>
      rw [q] at e
      exact ⟨none, _, by simp [e]; rfl⟩
    | some k =>
      rw [q] at e
      obtain ⟨v2', en, r⟩ := at_loop hk p k (some (.p (.int i))) S
      refine ⟨v2', en, ?_⟩
      simp [e]
      try simp at r
      rw [r]
theorem at_ok {ka x : Nat} (hk : SKidAt (cl ka) x) : SAt (runD cl 2 3 (m_at_place ka)) x := by
  intro p t S
  obtain ⟨v2', en, r⟩ := at_loop (pl := some (.p (encI p))) hk p t none S
  unfold m_at_place
  cases q : Th.atP p t with
  | none =>
    rw [q] at r
    simp [encI] at r
    simp [runD, encI, r]
  | some k =>
    rw [q] at r
    simp [encI] at r
    simp [runD, encI, r]
end
end Kp

set_option Elab.async false
set_option linter.all false
set_option maxRecDepth 100000
set_option maxHeartbeats 8000000
set_option autoImplicit false
/-! S37: a thing changed at a place, by draws. -/
namespace Kp
open PySem PySem.Spec PyProof.Rows L2
theorem lay_ints : ∀ p : List Int, PyData.canLayAll0 (p.map .int) = true
  | [] => rfl
  | i :: p => by simp [PyData.canLayAll0, PyData.canLay0, lay_ints p]
theorem dep_ints : ∀ p : List Int, PyData.depthAll (p.map .int) = 0
  | [] => rfl
  | i :: p => by simp [PyData.depthAll, PyData.depth, dep_ints p]
theorem sh_ints (p : List Int) : SeqAt.shaped (.tuple (p.map .int)) = true := by
  unfold SeqAt.shaped
  simp [PyData.canLay0, lay_ints, PyData.depth, dep_ints]
theorem e_tt {a b : List P} {S : Sto} (h : (SeqAt.shaped (.tuple a) && SeqAt.shaped (.tuple b)) = true) : eqV' (.p (.tuple a)) (.p (.tuple b)) S = .ok (PyData.eqv (.tuple a) (.tuple b)) S := if_pos h
theorem eqv_ints : ∀ p q : List Int, PyData.eqvAll (p.map .int) (q.map .int) = decide (p = q)
  | [], [] => rfl
  | [], _ :: _ => by simp [PyData.eqvAll]
  | _ :: _, [] => by simp [PyData.eqvAll]
  | i :: p, j :: q => by
    simp only [List.map_cons, PyData.eqvAll, eqv_ints p q, PyData.eqv]
    by_cases h1 : i = j
    · by_cases h2 : p = q <;> simp [h1, h2]
    · simp [h1]
theorem e_ints {p q : List Int} {S : Sto} : eqV' (.p (.tuple (p.map .int))) (.p (.tuple (q.map .int))) S = .ok (decide (p = q)) S := by
  rw [e_tt (by rw [sh_ints, sh_ints]; rfl)]
  show R.ok (PyData.eqvAll _ _) S = _
  rw [eqv_ints]
theorem e_ints0 {p : List Int} {S : Sto} : eqV' (.p (.tuple (p.map .int))) (.p (.tuple [])) S = .ok (decide (p = [])) S := e_ints (q := [])
theorem ct1 {α : Type} {xs : List α} : cutP xs none (some 1) = xs.take 1 := cut_to 1
theorem ct2 {α : Type} {xs : List α} : cutP xs none (some 2) = xs.take 2 := cut_to 2
theorem ct3 {α : Type} {xs : List α} : cutP xs none (some 3) = xs.take 3 := cut_to 3
theorem ct4 {α : Type} {xs : List α} : cutP xs none (some 4) = xs.take 4 := cut_to 4
theorem cf1 {α : Type} {xs : List α} : cutP xs (some 1) none = xs.drop 1 := cut_from 1
theorem cf2 {α : Type} {xs : List α} : cutP xs (some 2) none = xs.drop 2 := cut_from 2
theorem cf3 {α : Type} {xs : List α} : cutP xs (some 3) none = xs.drop 3 := cut_from 3
theorem cf4 {α : Type} {xs : List α} : cutP xs (some 4) none = xs.drop 4 := cut_from 4
theorem cf5 {α : Type} {xs : List α} : cutP xs (some 5) none = xs.drop 5 := cut_from 5
@[simp] theorem pow106 {S : Sto} : binV .pow (.p (.int 10)) (.p (.int 6)) S = .ok (.p (.int 1000000)) S := by
  unfold binV
  dsimp only
  rw [if_pos (by decide)]
  rfl
def SWith2 (c : Cf) (d : Nat) : Prop := ∀ (t : Th) (p : List Int) (u x : Th) (S : Sto), p.length < d → Th.atP p t = some x → c [.p t.e, .p (.tuple (p.map .int)), .p u.e] S = .ok (.p (Th.wtP p t u).e) S
section
variable {cl : Cl} {kw ksz d : Nat}
theorem with2_ok (ih : SWith2 (cl kw) d) : SWith2 (runD cl 3 4 (m_l_with_v2 kw)) (d + 1) := by
  intro t p u x S hl ha
  unfold m_l_with_v2
  cases p with
  | nil =>
    have e0 := e_ints0 (p := []) (S := S)
    simp only [List.map_nil] at e0
    simp [runD, e0, Th.wtP]
  | cons i p =>
    have e0 := e_ints0 (p := i :: p) (S := S)
    simp only [List.map_cons] at e0
    rw [Th.atP] at ha
    cases hk : t.kidI i with
    | none => rw [hk] at ha; cases ha
    | some k =>
      rw [hk] at ha
      dsimp only at ha
      have er := ih k p u x S (by simp only [List.length_cons] at hl; omega) ha
      rw [Th.wtP, hk]
      dsimp only
      obtain ⟨hi, hlt, hg⟩ := kidI_cases hk
      generalize Th.wtP p k u = r at *
      cases t with
      | var n => simp at hlt
      | nm n => simp at hlt
      | n0 w => simp at hlt
      | n1 w a =>
        rcases hi with rfl | rfl | rfl | rfl
        · simp at hg; subst hg; simp [runD, e0, cf1, cf2, ct1, er, Th.setK, Th.e]
        · simp at hlt
        · simp at hlt
        · simp at hlt
      | n2 w a b =>
        rcases hi with rfl | rfl | rfl | rfl
        · simp at hg; subst hg; simp [runD, e0, cf1, cf2, ct1, er, Th.setK, Th.e]
        · simp at hg; subst hg; simp [runD, e0, cf1, cf3, ct2, er, Th.setK, Th.e]
        · simp at hlt
        · simp at hlt
      | n3 w a b c =>
        rcases hi with rfl | rfl | rfl | rfl
        · simp at hg; subst hg; simp [runD, e0, cf1, cf2, ct1, er, Th.setK, Th.e]
        · simp at hg; subst hg; simp [runD, e0, cf1, cf3, ct2, er, Th.setK, Th.e]
        · simp at hg; subst hg; simp [runD, e0, cf1, cf4, ct3, er, Th.setK, Th.e]
        · simp at hlt
      | rc a b c d =>
        rcases hi with rfl | rfl | rfl | rfl
        · simp at hg; subst hg; simp [runD, e0, cf1, cf2, ct1, er, Th.setK, Th.e]
        · simp at hg; subst hg; simp [runD, e0, cf1, cf3, ct2, er, Th.setK, Th.e]
        · simp at hg; subst hg; simp [runD, e0, cf1, cf4, ct3, er, Th.setK, Th.e]
        · simp at hg; subst hg; simp [runD, e0, cf1, cf5, ct4, er, Th.setK, Th.e]
/-- next, so often -/
def nextN : Nat → Th → Th
  | 0, t => t
  | n + 1, t => nextN n (.n1 .next t)
def SNexts2 (c : Cf) : Prop := ∀ (n : Nat) (t : Th) (S : Sto), n ≤ 1000 → c [.p (.int (n : Int)), .p t.e] S = .ok (.p (nextN n t).e) S
theorem nexts_loop {S : Sto} {nv : Option PV} : ∀ (l : List Nat) (t : Th) (v : Option PV), ∃ v', forL (.nm 2) [] (exss cl (.cons (.asg (.nm 1) (.tup (.cons (.c (.str "next")) (.cons (.v 1) .nil)))) .nil)) (l.map fun (x : Nat) => PV.p (.int (0 + (x : Int)))) [nv, some (.p t.e), v] S = .nx [nv, some (.p (nextN l.length t).e), v'] S
  | [], t, v => ⟨v, by simp [nextN]⟩
  | x :: l, t, v => by
    obtain ⟨v', r⟩ := nexts_loop l (.n1 .next t) (some (.p (.int (0 + (x : Int)))))
    refine ⟨v', ?_⟩
    rw [List.map_cons, for_cons0]
    have e : (Th.n1 .next t).e = .tuple [.str "next", t.e] := rfl
    rw [e] at r
    simp
    simp at r
    rw [r]
    rfl
theorem nexts2_ok : SNexts2 (runD cl 2 3 m_l_nexts_v2) := by
  intro n t S hn
  obtain ⟨v', r⟩ := nexts_loop (cl := cl) (S := S) (nv := some (.p (.int (n : Int)))) (List.range n) t none
  rw [List.length_range] at r
  have hb : ((n : Nat) : Int) < 4611686018427387904 := by omega
  unfold m_l_nexts_v2
  simp at r
  simp [runD, hb, r]
theorem nextN_vs : ∀ (n : Nat) (t : Th), t.vs → (nextN n t).vs
  | 0, _, h => h
  | n + 1, t, h => nextN_vs n (.n1 .next t) h
theorem nextN_sz : ∀ (n : Nat) (t : Th), (nextN n t).sz = t.sz + n
  | 0, t => rfl
  | n + 1, t => by rw [nextN, nextN_sz]; simp only [Th.sz]; omega
theorem nextN_dp : ∀ (n : Nat) (t : Th), (nextN n t).dp = t.dp + n
  | 0, t => rfl
  | n + 1, t => by rw [nextN, nextN_dp]; simp only [Th.dp]; omega
/-- a thing of so many knots -/
def SSized (c : Cf) (d : Nat) : Prop := ∀ (n : Nat) (S : Sto), 1 ≤ n → n < 2 ^ (d + 1) → ∃ t : Th, t.vs ∧ t.so ∧ t.cb 0 ∧ t.sz = n ∧ t.dp ≤ d + 1 ∧ ∀ S, c [.p (.int (n : Int))] S = .ok (.p t.e) S
theorem sized_ok (ih : ∀ d', d = d' + 1 → SSized (cl ksz) d') : SSized (runD cl 1 1 (m_l_sized ksz)) d := by
  intro n S h1 h2
  unfold m_l_sized
  by_cases c1 : n = 1
  · subst c1
    exact ⟨.n0 .zero, trivial, trivial, trivial, rfl, by simp, fun S => by simp [runD, Th.e]⟩
  · have d0 : d ≠ 0 := by intro z; subst z; simp at h2; omega
    obtain ⟨d', rfl⟩ : ∃ d', d = d' + 1 := ⟨d - 1, by omega⟩
    have c1' : ¬ (n : Int) = 1 := by omega
    by_cases c2 : n = 2
    · subst c2
      exact ⟨.n1 .next (.n0 .zero), trivial, trivial, trivial, rfl, by simp, fun S => by simp [runD, Th.e]⟩
    · have c2' : ¬ (n : Int) = 2 := by omega
      have p2 : 2 ^ (d' + 1 + 1) = 2 * 2 ^ (d' + 1) := by rw [Nat.pow_succ]; omega
      obtain ⟨a, a1, a2, a3, a4, a5, a6⟩ := ih d' rfl ((n - 1) / 2) S (by omega) (by omega)
      obtain ⟨b, b1, b2, b3, b4, b5, b6⟩ := ih d' rfl (n - 1 - (n - 1) / 2) S (by omega) (by omega)
      have i1 : ((n : Int) - 1) / 2 = (((n - 1) / 2 : Nat) : Int) := by omega
      have i2 : (n : Int) - 1 - (((n - 1) / 2 : Nat) : Int) = ((n - 1 - (n - 1) / 2 : Nat) : Int) := by omega
      generalize (((n - 1) / 2 : Nat) : Int) = x1 at *
      generalize ((n - 1 - (n - 1) / 2 : Nat) : Int) = x2 at *
      refine ⟨.n2 .app a b, ⟨a1, b1⟩, ⟨a2, b2⟩, ⟨a3, b3⟩, by simp only [Th.sz]; omega, by simp only [Th.dp]; omega, fun S => ?_⟩
      simp [runD, c1', c2', i1, i2, a6, b6, Th.e]
def STold3 (c : Cf) : Prop := ∀ (o : Option (List Int)) (S : Sto), c [.p (oT o), .p (oT o)] S = .ok (.p (.bool true)) S
theorem told3_loop {S : Sto} {a b : Option PV} : ∀ (l : List Int) (v : Option PV), ∃ v', forL (.nm 2) [] (exss cl (.cons (.ift (.or' (.not' (.isi (.v 2) .int)) (.isi (.v 2) .bool)) (.cons (.ret (.c (.bool false)))
    .nil) .nil)
    .nil)) ((l.map PyData.int).map PV.p) [a, b, v] S = .nx [a, b, v'] S
  | [], v => ⟨v, by simp⟩
  | x :: l, v => by
    obtain ⟨v', r⟩ := told3_loop l (some (.p (.int x)))
    refine ⟨v', ?_⟩
    rw [List.map_cons, List.map_cons, for_cons0]
    simp
    simp at r
    rw [r]
theorem told3_ok : STold3 (runD cl 2 3 m_l_told_v3) := by
  intro o S
  unfold m_l_told_v3
  cases o with
  | none => simp [runD, oT]
  | some p =>
    obtain ⟨v', r⟩ := told3_loop (cl := cl) (S := S) (a := some (.p (.tuple (p.map .int)))) (b := some (.p (.tuple (p.map .int)))) p none
    have e := e_ints (p := p) (q := p) (S := S)
    simp [runD, oT, e]
    simp at r
    rw [r]
    simp
end
end Kp

set_option Elab.async false
set_option linter.all false
set_option maxRecDepth 100000
set_option maxHeartbeats 8000000
set_option autoImplicit false
/-! S40: changed at a place by the program; what a thing turns to; one step. -/
namespace Kp
open PySem PySem.Spec PyProof.Rows L2
instance decTg (t : Th) : Decidable t.tg := by unfold Th.tg; exact inferInstance
def bdO (t : Th) : Option Th := if t.tg then none else some t
def putO (b a : Th) : Option Th := if 600 < (b.sz : Int) + cnt ((b.fr 0).foldl bump []) 0 * ((a.sz : Int) - 1) then none else bdO (a.pl 0 0 b)
def Th.turn (bk : Bk) : Th → Option Th
  | .n2 .app (.n2 .fun' _ b) a => putO b a
  | .rc _ b _ (.n0 .zero) => some b
  | .rc k b s (.n1 .next n) => bdO (.n2 .app (.n2 .app s n) (.rc k b s n))
  | .n3 .carry _ b _ => some b
  | .n1 .first (.n3 .pair _ a _) => some a
  | .n1 .second (.n3 .pair _ _ b) => some b
  | .nm s => (bk.find? fun p => decide (p.1 = s)).map fun q => q.2.2
  | _ => none
inductive StepR
  | place | step | great | thing (t : Th)
def stepT (bk : Bk) (t : Th) (p : List Int) : StepR := match Th.atP p t with
  | none => .place
  | some u => match u.rl bk with
    | none => .step
    | some _ => match u.turn bk with
      | none => .great
      | some v => if (Th.wtP p t v).tg then .great else .thing (Th.wtP p t v)
def stR (g np ns : Nat) (S : Sto) : StepR → R PV
  | .place => .ex np S
  | .step => .ex ns S
  | .great => .ex g S
  | .thing u => .ok (.p u.e) S
/-- a book whose terms aren't too deep -/
def BkS (bk : Bk) : Prop := ∀ q ∈ bk, q.2.2.dp ≤ 40 ∧ q.2.2.vs
theorem atP_dp : ∀ (p : List Int) (t u : Th) (d : Nat), Th.atP p t = some u → t.dp ≤ d → u.dp ≤ d
  | [], t, u, d, h, hd => by
    have : t = u := Option.some.inj h
    subst this
    exact hd
  | i :: p, t, u, d, h, hd => by
    rw [atP_c] at h
    cases q : t.kidI i with
    | none => rw [q] at h; cases h
    | some k =>
      rw [q] at h
      obtain ⟨_, _, e⟩ := kidI_cases q
      cases d with
      | zero => have := dp_pos t; omega
      | succ d =>
        have := kids_dp t hd k (List.mem_of_getElem? e)
        exact atP_dp p k u (d + 1) h (by omega)
theorem kid_sz {t k : Th} (h : k ∈ t.kids) : k.sz ≤ t.sz := by
  cases t <;> simp only [Th.kids, List.mem_cons, List.not_mem_nil, or_false] at h
  · subst h; simp only [Th.sz]; omega
  · rcases h with rfl | rfl <;> simp only [Th.sz] <;> omega
  · rcases h with rfl | rfl | rfl <;> simp only [Th.sz] <;> omega
  · rcases h with rfl | rfl | rfl | rfl <;> simp only [Th.sz] <;> omega
theorem atP_sz : ∀ (p : List Int) (t u : Th), Th.atP p t = some u → u.sz ≤ t.sz
  | [], t, u, h => by
    have : t = u := Option.some.inj h
    subst this
    exact Nat.le_refl _
  | i :: p, t, u, h => by
    rw [atP_c] at h
    cases q : t.kidI i with
    | none => rw [q] at h; cases h
    | some k =>
      rw [q] at h
      obtain ⟨_, _, e⟩ := kidI_cases q
      have := kid_sz (List.mem_of_getElem? e)
      have := atP_sz p k u h
      omega
theorem turn_dp {bk : Bk} (hb : BkS bk) {t u : Th} (hd : t.dp ≤ 40) (h : t.turn bk = some u) : u.dp ≤ 40 := by
  unfold Th.turn at h
  split at h
  · unfold putO bdO at h
    split at h
    · cases h
    · split at h
      · cases h
      · rename_i hn
        have := Option.some.inj h
        subst this
        unfold Th.tg at hn
        omega
  · have := Option.some.inj h
    subst this
    simp only [Th.dp] at hd
    omega
  · unfold bdO at h
    split at h
    · cases h
    · rename_i hn
      have := Option.some.inj h
      subst this
      unfold Th.tg at hn
      omega
  · have := Option.some.inj h
    subst this
    simp only [Th.dp] at hd
    omega
  · have := Option.some.inj h
    subst this
    simp only [Th.dp] at hd
    omega
  · have := Option.some.inj h
    subst this
    simp only [Th.dp] at hd
    omega
  · obtain ⟨q, hq, rfl⟩ := Option.map_eq_some_iff.mp h
    exact (hb q (List.mem_of_find?_eq_some hq)).1
  · cases h
theorem setK_e {t r : Th} {n : Nat} (h : n < t.kids.length) : PyData.tuple (.str t.w :: (t.kids.map Th.e).set n r.e) = (t.setK n r).e := by
  cases t with
  | var _ => simp at h
  | nm _ => simp at h
  | n0 _ => simp at h
  | n1 w a =>
    have : n = 0 := by simp at h; omega
    subst this
    simp [Th.setK, Th.e]
  | n2 w a b =>
    have : n = 0 ∨ n = 1 := by simp at h; omega
    rcases this with rfl | rfl <;> simp [Th.setK, Th.e]
  | n3 w a b c =>
    have : n = 0 ∨ n = 1 ∨ n = 2 := by simp at h; omega
    rcases this with rfl | rfl | rfl <;> simp [Th.setK, Th.e]
  | rc a b c d =>
    have : n = 0 ∨ n = 1 ∨ n = 2 ∨ n = 3 := by simp at h; omega
    rcases this with rfl | rfl | rfl | rfl <;> simp [Th.setK, Th.e]
def SChg (c : Cf) (d : Nat) : Prop := ∀ (t : Th) (p : List Int) (u x : Th) (S : Sto), p.length < d → Th.atP p t = some x → c [.p t.e, .p (.tuple (p.map .int)), .p u.e] S = .ok (.p (Th.wtP p t u).e) S
section
variable {cl : Cl} {kp kf ka kk d : Nat}
theorem chg_ok {x : Nat} (hp : SPlain (cl kp)) (ha : SKidAt (cl ka) x) (hk : SKids (cl kk)) (ih : SChg (cl kf) d) : SChg (runD cl 3 4 (m_changed_at kp kf ka kk)) (d + 1) := by
  intro t p u z S hl hat
  unfold m_changed_at
  cases p with
  | nil =>
    have e0 := e_ints0 (p := []) (S := S)
    simp only [List.map_nil] at e0
    simp [runD, e0, Th.wtP]
  | cons i p =>
    have e0 := e_ints0 (p := i :: p) (S := S)
    simp only [List.map_cons] at e0
    have e1 := fun S => hk t S
    have e2 := fun S => ha t i S
    rw [Th.atP] at hat
    cases hki : t.kidI i with
    | none => rw [hki] at hat; cases hat
    | some k =>
      rw [hki] at hat e2
      dsimp only at hat e2
      have er := fun S => ih k p u z S (by simp only [List.length_cons] at hl; omega) hat
      rw [Th.wtP, hki]
      dsimp only
      obtain ⟨hi, hlt, hg⟩ := kidI_cases hki
      obtain ⟨n, rfl⟩ : ∃ n : Nat, i = (n : Int) := ⟨i.toNat, by omega⟩
      rw [Int.toNat_natCast] at *
      generalize Th.wtP p k u = r at *
      have few := kids_few t
      have e3 := hp t (S ++ [.lst ((t.kids.map Th.e).set n r.e)]) S.length ((t.kids.map Th.e).set n r.e) (by simp) (by simpa using few)
      have nz : (t.kids.map Th.e).set n r.e ≠ [] := by
        intro h
        have := congrArg List.length h
        simp at this
        simp [this] at hlt
      rw [if_neg nz, setK_e hlt] at e3
      simp [runD, e0, e1, e2, cf1, er, hlt, e3]
def SWith (c : Cf) (g np d : Nat) : Prop := ∀ (t : Th) (p : List Int) (u : Th) (S : Sto), p.length < d → t.dp + u.dp ≤ d → c [.p t.e, .p (encI p), .p u.e] S = match Th.atP p t with
  | none => .ex np S
  | some _ => if (Th.wtP p t u).tg then .ex g S else .ok (.p (Th.wtP p t u).e) S
theorem bdR_if {g : Nat} {t : Th} {S : Sto} {r : R PV} (h : bdR g t S r) : r = if t.tg then .ex g S else .ok (.p t.e) S := by
  rcases h with ⟨a, b⟩ | ⟨a, b⟩
  · rw [if_pos a, b]
  · rw [if_neg a, b]
theorem with_ok {g np kb : Nat} (hb : SBound (cl kb) g d) (hc : SChg (cl kf) d) (ha : SAt (cl ka) np) : SWith (runD cl 3 3 (m_with_at kb kf ka)) g np d := by
  intro t p u S hl hd
  have e1 := ha p t S
  unfold m_with_at
  cases q : Th.atP p t with
  | none =>
    rw [q] at e1
    dsimp only at e1
    simp [runD, e1]
  | some x =>
    rw [q] at e1
    dsimp only at e1
    have e2 : cl kf [.p t.e, .p (encI p), .p u.e] S = .ok (.p (Th.wtP p t u).e) S := hc t p u x S hl q
    have wd := wtP_dp p t u
    have e3 := bdR_if (hb (Th.wtP p t u) S (by omega))
    dsimp only
    by_cases z : (Th.wtP p t u).tg
    · rw [if_pos z] at e3
      rw [if_pos z]
      simp [runD, e1, e2, e3]
    · rw [if_neg z] at e3
      rw [if_neg z]
      simp [runD, e1, e2, e3]
/-- one more turn of a rec -/
def SOne (c : Cf) (g d : Nat) : Prop := ∀ (k b s n : Th) (S : Sto), (Th.rc k b s (.n1 .next n)).dp ≤ d → c [.p (Th.rc k b s (.n1 .next n)).e] S = match bdO (.n2 .app (.n2 .app s n) (.rc k b s n)) with
  | none => .ex g S
  | some u => .ok (.p u.e) S
theorem one_ok {g kw kb kp : Nat} (hb : SBound (cl kb) g (d + 3)) (hp : SPlain (cl kp)) {cl2 : Cl} (hw : cl2 kw = runD cl 2 2 (m_with_kids kb kp)) : SOne (runD cl2 1 4 (m_one_more kw)) g d := by
  intro k b s n S hd
  have e1 := bdR_if (hb (.n2 .app (.n2 .app s n) (.rc k b s n)) (S ++ [.lst [(Th.n2 .app s n).e, (Th.rc k b s n).e]]) (by simp only [Th.dp] at *; omega))
  have e2 := hp (.n2 .app s n) (S ++ [.lst [(Th.n2 .app s n).e, (Th.rc k b s n).e]]) S.length [(Th.n2 .app s n).e, (Th.rc k b s n).e] (by simp) (by simp)
  have e3 : cl2 kw [.p (Th.n2 .app s n).e, .loc S.length] (S ++ [.lst [(Th.n2 .app s n).e, (Th.rc k b s n).e]]) = match bdO (.n2 .app (.n2 .app s n) (.rc k b s n)) with
    | none => .ex g (S ++ [.lst [(Th.n2 .app s n).e, (Th.rc k b s n).e]])
    | some u => .ok (.p u.e) (S ++ [.lst [(Th.n2 .app s n).e, (Th.rc k b s n).e]]) := by
    rw [hw]
    unfold m_with_kids bdO
    have e4 : PyData.tuple (.str (Th.n2 .app s n).w :: [(Th.n2 .app s n).e, (Th.rc k b s n).e]) = (Th.n2 .app (.n2 .app s n) (.rc k b s n)).e := rfl
    rw [if_neg (by simp), e4] at e2
    by_cases z : (Th.n2 .app (.n2 .app s n) (.rc k b s n)).tg
    · rw [if_pos z] at e1
      rw [if_pos z]
      simp [runD, e2, e1]
    · rw [if_neg z] at e1
      rw [if_neg z]
      simp [runD, e2, e1]
  unfold m_one_more
  have f1 : (Th.n2 .app s n).e = .tuple [.str "app", s.e, n.e] := rfl
  have f2 : (Th.rc k b s n).e = .tuple [.str "rec", k.e, b.e, s.e, n.e] := rfl
  rw [f1, f2] at e3
  cases q : bdO (.n2 .app (.n2 .app s n) (.rc k b s n)) with
  | none =>
    rw [q] at e3
    simp [runD, e3]
  | some u =>
    rw [q] at e3
    simp [runD, e3]
def STurn (c : Cf) (g : Nat) : Prop := ∀ (t : Th) (r : Str) (S : Sto) (l : Nat) (bk : Bk), S[l]? = some (.dct (encB bk)) → t.sz ≤ 600 → t.dp ≤ 40 → t.rl bk = some r → c [.p t.e, .p (.str r), .loc l] S = match t.turn bk with
  | none => .ex g S
  | some u => .ok (.p u.e) S
theorem ptR_eq {g : Nat} {b a : Th} {S : Sto} {r : R PV} (h : ptR g b a 0 S r) : r = match putO b a with
  | none => .ex g S
  | some u => .ok (.p u.e) S := by
  unfold putO bdO
  rcases h with ⟨h | h, e⟩ | ⟨h, e⟩
  · rw [if_pos h]; exact e
  · rw [if_pos h]
    split
    · rename_i q; split at q <;> exact e
    · rename_i q; split at q <;> cases q
  · rw [if_neg fun z => h (.inl z), if_neg fun z => h (.inr z)]; exact e
theorem turned_ok {g ko kpu : Nat} (ho : SOne (cl ko) g 40) (hp : SPut (cl kpu) g 40) : STurn (runD cl 3 3 (m_turned ko kpu)) g := by
  intro t r S l bk h hz hd hr
  unfold m_turned
  cases t with
  | var n => simp [Th.rl] at hr
  | n0 w => simp [Th.rl] at hr
  | nm s =>
    have lu := luK_encB (bk := bk) (k := s)
    have lh := luK_has (bk := bk) (k := s)
    simp only [Th.rl] at hr
    cases q : bk.has s with
    | false => rw [q] at hr; simp at hr
    | true =>
      rw [q] at hr lh
      simp at hr
      subst hr
      unfold Th.turn
      cases f : bk.find? fun p => decide (p.1 = s) with
      | none => rw [f] at lu; rw [lu] at lh; simp at lh
      | some v =>
        rw [f] at lu
        simp at lu
        simp [runD, h, lu, f]
  | n1 w a =>
    cases w with
    | next => simp [Th.rl] at hr
    | first =>
      cases a with
      | n3 w x y z =>
        cases w with
        | pair =>
          simp [Th.rl, Th.isPair] at hr
          subst hr
          simp [runD, Th.turn]
        | _ => simp [Th.rl, Th.isPair] at hr
      | _ => simp [Th.rl, Th.isPair] at hr
    | second =>
      cases a with
      | n3 w x y z =>
        cases w with
        | pair =>
          simp [Th.rl, Th.isPair] at hr
          subst hr
          simp [runD, Th.turn]
        | _ => simp [Th.rl, Th.isPair] at hr
      | _ => simp [Th.rl, Th.isPair] at hr
  | n2 w f a =>
    cases w with
    | app =>
      cases f with
      | n2 w x b =>
        cases w with
        | fun' =>
          simp [Th.rl, Th.isFun] at hr
          subst hr
          have e := ptR_eq (hp b a 0 S (by simp only [Th.dp] at hd; omega) (by simp only [Th.dp] at hd; omega) (by simp only [Th.sz] at hz; omega) (by simp only [Th.sz] at hz; omega))
          unfold Th.turn
          cases q : putO b a with
          | none =>
            rw [q] at e
            dsimp only at e
            simp [runD, e, q]
          | some u =>
            rw [q] at e
            dsimp only at e
            simp [runD, e, q]
        | _ => simp [Th.rl, Th.isFun] at hr
      | _ => simp [Th.rl, Th.isFun] at hr
    | _ => simp [Th.rl] at hr
  | n3 w x b c =>
    cases w with
    | carry =>
      cases c with
      | n2 w y z =>
        cases w with
        | like =>
          simp [Th.rl, Th.isLike] at hr
          subst hr
          simp [runD, Th.turn]
        | _ => simp [Th.rl, Th.isLike] at hr
      | _ => simp [Th.rl, Th.isLike] at hr
    | _ => simp [Th.rl] at hr
  | rc k b s c =>
    cases c with
    | n0 w =>
      cases w with
      | zero =>
        simp [Th.rl, Th.isZero] at hr
        subst hr
        simp [runD, Th.turn]
      | _ => simp [Th.rl, Th.isZero, Th.isNext] at hr
    | n1 w n =>
      cases w with
      | next =>
        simp [Th.rl, Th.isZero, Th.isNext] at hr
        subst hr
        have e := ho k b s n S hd
        have f2 : (Th.rc k b s (.n1 .next n)).e = .tuple [.str "rec", k.e, b.e, s.e, .tuple [.str "next", n.e]] := rfl
        unfold Th.turn
        rw [f2] at e
        rw [f2]
        cases q : bdO (.n2 .app (.n2 .app s n) (.rc k b s n)) with
        | none =>
          rw [q] at e
          dsimp only at e
          simp [runD, e, q]
        | some u =>
          rw [q] at e
          dsimp only at e
          simp [runD, e, q]
      | _ => simp [Th.rl, Th.isZero, Th.isNext] at hr
    | _ => simp [Th.rl, Th.isZero, Th.isNext] at hr
def SStep (c : Cf) (g np ns : Nat) : Prop := ∀ (t : Th) (p : List Int) (S : Sto) (l : Nat) (bk : Bk), S[l]? = some (.dct (encB bk)) → BkS bk → t.sz ≤ 600 → t.dp ≤ 40 → c [.p t.e, .p (encI p), .loc l] S = stR g np ns S (stepT bk t p)
theorem atP_len : ∀ (p : List Int) (t u : Th), Th.atP p t = some u → p.length < t.dp
  | [], t, u, _ => dp_pos t
  | i :: p, t, u, h => by
    rw [atP_c] at h
    cases q : t.kidI i with
    | none => rw [q] at h; cases h
    | some k =>
      rw [q] at h
      obtain ⟨_, _, e⟩ := kidI_cases q
      have dp := dp_pos t
      have := kids_dp t (d := t.dp - 1) (by omega) k (List.mem_of_getElem? e)
      have := atP_len p k u h
      simp only [List.length_cons]
      omega
theorem stepped_ok {g np ns kw kt kr : Nat} (hw : SWith (cl kw) g np 80) (ht : STurn (cl kt) g) (hr : SRule (cl kr)) (ha : SAt (cl ka) np) : SStep (runD cl 3 5 (m_stepped kw kt kr ka ns)) g np ns := by
  intro t p S l bk h hb hz hd
  have e1 := ha p t S
  unfold m_stepped stepT
  cases q : Th.atP p t with
  | none =>
    rw [q] at e1
    dsimp only at e1
    simp [runD, e1, stR]
  | some u =>
    rw [q] at e1
    dsimp only at e1
    have e2 := hr u S l bk h
    have ud := atP_dp p t u 40 q hd
    have uz := atP_sz p t u q
    have pl := atP_len p t u q
    dsimp only
    cases q2 : u.rl bk with
    | none =>
      rw [q2] at e2
      simp only [oS] at e2
      simp [runD, e1, e2, stR]
    | some r =>
      rw [q2] at e2
      simp only [oS] at e2
      have e3 := ht u r S l bk h (by omega) ud q2
      dsimp only
      cases q3 : u.turn bk with
      | none =>
        rw [q3] at e3
        dsimp only at e3
        simp [runD, e1, e2, e3, stR]
      | some v =>
        rw [q3] at e3
        dsimp only at e3
        have vd := turn_dp hb ud q3
        have e4 := hw t p v S (by omega) (by omega)
        rw [q] at e4
        dsimp only at e4 ⊢
        by_cases z : (Th.wtP p t v).tg
        · rw [if_pos z] at e4
          rw [if_pos z]
          simp [runD, e1, e2, e3, e4, stR]
        · rw [if_neg z] at e4
          rw [if_neg z]
          simp [runD, e1, e2, e3, e4, stR]
theorem step_fit {bk : Bk} {t u : Th} {p : List Int} (h : stepT bk t p = .thing u) : u.sz ≤ 600 ∧ u.dp ≤ 40 ∧ u.gs ≤ 99 := by
  unfold stepT at h
  repeat' split at h
  all_goals first | cases h | skip
  rename_i z
  unfold Th.tg at z
  omega
end
end Kp

set_option Elab.async false
set_option linter.all false
set_option maxRecDepth 100000
set_option maxHeartbeats 8000000
set_option autoImplicit false
/-! S41: the first step, and what comes behind all steps, run. -/
namespace Kp
open PySem PySem.Spec PyProof.Rows L2
abbrev Row := List Int × Str
def rlQ (bk : Bk) (q : List Int × Th) : Option Row := (q.2.rl bk).map fun r => (q.1, r)
def firstT (bk : Bk) (st : List (List Int × Th)) : Option Row := (presOf st).findSome? (rlQ bk)
def firstS (bk : Bk) (t : Th) : Option Row := (t.pre []).findSome? (rlQ bk)
theorem firstT_one {bk : Bk} {t : Th} : firstT bk [([], t)] = firstS bk t := by simp [firstT, firstS, presOf]
theorem firstT_cons {bk : Bk} {p : List Int} {t : Th} {st : List (List Int × Th)} : firstT bk ((p, t) :: st) = match t.rl bk with
    | some r => some (p, r)
    | none => firstT bk (kidsI p 0 t.kids ++ st) := by
  unfold firstT
  rw [presOf_cons, List.findSome?_cons]
  unfold rlQ
  dsimp only
  cases t.rl bk <;> rfl
def encR (r : Row) : P := .tuple [encI r.1, .str r.2]
def oR : Option Row → P
  | some r => encR r
  | none => .none
def SFirst (c : Cf) : Prop := ∀ (t : Th) (S : Sto) (l : Nat) (bk : Bk), S[l]? = some (.dct (encB bk)) → t.dp ≤ 900 → t.sz ≤ 90000 → c [.p t.e, .loc l] S = .ok (.p (oR (firstS bk t))) S
def pushF : Sms := (.cons (.ex (.mth .append (.v 2) (.cons (.tup (.cons (.bin .add (.v 3) (.tup (.cons (.v 7) .nil))) (.cons (.ix (.v 6) (.v 7)) .nil))) .nil)))
    .nil)
def firstB (kk kr : Nat) : Sms := (.cons (.asg (.tp [3, 4]) (.mth .pop0 (.v 2) .nil))
    (.cons (.asg (.nm 5) (.call kr (.cons (.v 4) (.cons (.v 1) .nil))))
    (.cons (.ift (.cmp .isn (.v 5) (.c .none)) (.cons (.ret (.tup (.cons (.v 3) (.cons (.v 5) .nil))))
    .nil) .nil)
    (.cons (.asg (.nm 6) (.call kk (.cons (.v 4) .nil)))
    (.cons (.for' (.nm 7) (.revR (.bi .len (.cons (.v 6) .nil))) pushF)
    .nil)))))
section
variable {cl : Cl} {kk kr : Nat}
theorem push_first {th bl here ru : Option PV} {w kc : Nat} {p : List Int} (ks : List Th) (hk : ks.length ≤ 4) (W : List P) (v7 : Option PV) (S : Sto) (hw : S[w]? = some (.lst W)) (hkc : S[kc]? = some (.lst (ks.map Th.e))) (ne : w ≠ kc) (hp : p.length ≤ 2000) (hW : W.length ≤ 900000) :
    ∃ a, forL (.nm 7) [] (exss cl pushF) (((List.range ks.length).map fun (k : Nat) => PV.p (.int (0 + (k : Int)))).reverse) [th, bl, some (.loc w), some (.p (.tuple (p.map .int))), here, ru, some (.loc kc), v7] S =
      .nx [th, bl, some (.loc w), some (.p (.tuple (p.map .int))), here, ru, some (.loc kc), a] (S.set w (.lst (W ++ ((kidsI p 0 ks).reverse.map encPT)))) := by
  have hi := has_of hw
  have hpl : p.length + 1 ≤ 1000000 := by omega
  have w0 : W.length < 1000000 := by omega
  have w1 : W.length + 1 < 1000000 := by omega
  have w2 : W.length + 2 < 1000000 := by omega
  have w3 : W.length + 3 < 1000000 := by omega
  have kne : ∀ c, (S.set w c)[kc]? = some (.lst (ks.map Th.e)) := fun c => by rw [List.getElem?_set_ne ne]; exact hkc
  unfold pushF
  match ks, hk with
  | [], _ => exact ⟨v7, by simp [kidsI, set_same hw]⟩
  | [a], _ =>
    simp at hkc kne
    exact ⟨_, by simp [rg1, for_cons0, hkc, kne, hw, hi, hpl, w0, kidsI, encPT]; try exact rfl⟩
  | [a, b], _ =>
    simp at hkc kne
    exact ⟨_, by simp [rg2, for_cons0, hkc, kne, hw, hi, hpl, w0, w1, kidsI, encPT]; try exact rfl⟩
  | [a, b, c], _ =>
    simp at hkc kne
    exact ⟨_, by simp [rg3, for_cons0, hkc, kne, hw, hi, hpl, w0, w1, w2, kidsI, encPT]; try exact rfl⟩
  | [a, b, c, d], _ =>
    simp at hkc kne
    exact ⟨_, by simp [rg4, for_cons0, hkc, kne, hw, hi, hpl, w0, w1, w2, w3, kidsI, encPT]; try exact rfl⟩
  | _ :: _ :: _ :: _ :: _ :: _, h => simp at h
theorem first_turn {th v3 v4 v5 v6 v7 : Option PV} {l w n : Nat} {bk : Bk} {p : List Int} {t : Th} {rest : List (List Int × Th)} {S : Sto} (hr : SRule (cl kr)) (hk : SKids (cl kk)) (hl : S[l]? = some (.dct (encB bk))) (hw : S[w]? = some (.lst ((((p, t) :: rest).reverse).map encPT)))
    (lw : l ≠ w) (hn : n ≤ S.length) (nw : n ≤ w) (hrest : rest.length ≤ 900000) (hp : p.length ≤ 2000) :
    (∀ r, t.rl bk = some r → ∃ S', exss cl (firstB kk kr) [th, some (.loc l), some (.loc w), v3, v4, v5, v6, v7] S = .rt (.p (encR (p, r))) S' ∧ Ag n S S') ∧
    (t.rl bk = none → ∃ u3 u4 u5 u6 u7 S', exss cl (firstB kk kr) [th, some (.loc l), some (.loc w), v3, v4, v5, v6, v7] S = .nx [th, some (.loc l), some (.loc w), u3, u4, u5, u6, u7] S' ∧ Ag n S S' ∧ S'[l]? = some (.dct (encB bk)) ∧ S'[w]? = some (.lst (((kidsI p 0 t.kids ++ rest).reverse).map encPT))) := by
  have hwi := has_of hw
  have e0 : (((p, t) :: rest).reverse).map encPT = (rest.reverse.map encPT) ++ [encPT (p, t)] := by simp
  rw [e0] at hw
  have pp := pop_last hw
  generalize hS1 : S.set w (.lst (rest.reverse.map encPT)) = S1 at *
  have h1w : S1[w]? = some (.lst (rest.reverse.map encPT)) := by rw [← hS1]; exact set_at hwi
  have h1l : S1[l]? = some (.dct (encB bk)) := by rw [← hS1, List.getElem?_set_ne (Ne.symm lw)]; exact hl
  have ag1 : Ag n S S1 := by rw [← hS1]; exact (Ag.refl hn).set nw
  have e1 := hr t S1 l bk h1l
  have ppe : mtV .pop0 (.loc w) [] S = .ok (.p (.tuple [.tuple (p.map .int), t.e])) S1 := pp
  refine ⟨fun r c => ⟨S1, ?_, ag1⟩, fun c => ?_⟩
  · rw [c] at e1
    simp only [oS] at e1
    unfold firstB
    simp [hw, ppe, e1, encR, encI]
  · rw [c] at e1
    simp only [oS] at e1
    have e2 := hk t S1
    have h3w : (S1 ++ [.lst (t.kids.map Th.e)])[w]? = some (.lst (rest.reverse.map encPT)) := by rw [at_old (has_of h1w)]; exact h1w
    have wl : w < S1.length := getE_lt h1w
    have few := kids_few t
    obtain ⟨a, e3⟩ := push_first (cl := cl) (th := th) (bl := some (.loc l)) (here := some (.p t.e)) (ru := some (.p .none)) (kc := S1.length) (p := p) t.kids few (rest.reverse.map encPT) v7 (S1 ++ [.lst (t.kids.map Th.e)]) h3w (by simp) (by omega) hp (by simp; omega)
    have hb : ((t.kids.length : Nat) : Int) < 4611686018427387904 := by omega
    refine ⟨some (.p (.tuple (p.map .int))), some (.p t.e), some (.p .none), some (.loc S1.length), a, (S1 ++ [Cell.lst (t.kids.map Th.e)]).set w (Cell.lst (rest.reverse.map encPT ++ (kidsI p 0 t.kids).reverse.map encPT)), ?_, (ag1.app).set nw, ?_, set_at (has_of h3w) |>.trans (by simp)⟩
    · unfold firstB
      simp [hw, ppe, e1, e2, hb]
      simp at e3
      rw [e3]
      simp
    · rw [List.getElem?_set_ne (Ne.symm lw), at_old (has_of h1l)]; exact h1l
theorem first_while {th : Option PV} {l w n : Nat} {bk : Bk} (hr : SRule (cl kr)) (hk : SKids (cl kk)) (lw : l ≠ w) (nw : n ≤ w) : ∀ (m : Nat) (st : List (List Int × Th)) (v3 v4 v5 v6 v7 : Option PV) (S : Sto), szs st < m → szs st ≤ 90000 → (∀ q ∈ st, q.1.length + q.2.dp ≤ 1000) →
    n ≤ S.length → S[l]? = some (.dct (encB bk)) → S[w]? = some (.lst (st.reverse.map encPT)) →
    ∃ S', Ag n S S' ∧ match firstT bk st with
      | some r => whileL (evT cl (.cmp .gt (.bi .len (.cons (.v 2) .nil)) (.c (.int 0)))) (exss cl (firstB kk kr)) m [th, some (.loc l), some (.loc w), v3, v4, v5, v6, v7] S = .rt (.p (encR r)) S'
      | none => ∃ en, whileL (evT cl (.cmp .gt (.bi .len (.cons (.v 2) .nil)) (.c (.int 0)))) (exss cl (firstB kk kr)) m [th, some (.loc l), some (.loc w), v3, v4, v5, v6, v7] S = .nx en S'
  | 0, st, v3, v4, v5, v6, v7, S, h, _, _, _, _, _ => absurd h (Nat.not_lt_zero _)
  | m + 1, [], v3, v4, v5, v6, v7, S, h, h2, h3, hn, hl, hw => by
    refine ⟨S, Ag.refl hn, [th, some (.loc l), some (.loc w), v3, v4, v5, v6, v7], ?_⟩
    rw [whileL]
    simp [hw]
  | m + 1, (p, t) :: rest, v3, v4, v5, v6, v7, S, h, h2, h3, hn, hl, hw => by
    have hz : szs ((p, t) :: rest) = t.sz + szs rest := by simp [szs]
    have hk1 := szs_kids t p
    have ls := len_szs rest
    have hp := h3 (p, t) List.mem_cons_self
    simp only at hp
    have dpt := dp_pos t
    obtain ⟨c1, c2⟩ := first_turn (th := th) (v3 := v3) (v4 := v4) (v5 := v5) (v6 := v6) (v7 := v7) (cl := cl) hr hk hl hw lw hn nw (by omega) (by omega)
    have g : evT cl (.cmp .gt (.bi .len (.cons (.v 2) .nil)) (.c (.int 0))) [th, some (.loc l), some (.loc w), v3, v4, v5, v6, v7] S = .ok true S := by
      simp [hw]
    rw [firstT_cons]
    cases c : t.rl bk with
    | some r =>
      obtain ⟨S', e, ag⟩ := c1 r c
      refine ⟨S', ag, ?_⟩
      show whileL _ _ (m + 1) _ S = _
      rw [whileL, g, st_ok, if_pos rfl, e]
    | none =>
      obtain ⟨u3, u4, u5, u6, u7, S1, e, ag, al, a1⟩ := c2 c
      obtain ⟨S2, ag2, r⟩ := first_while (th := th) hr hk lw nw m (kidsI p 0 t.kids ++ rest) u3 u4 u5 u6 u7 S1 (by rw [szs_app]; omega) (by rw [szs_app]; omega) (fun q hq => by
        rcases List.mem_append.mp hq with hq | hq
        · cases hd : t.dp with
          | zero => omega
          | succ d =>
            have := kidsI_pl p (d := d) 0 t.kids (kids_dp t (by omega)) _ hq
            omega
        · exact h3 q (List.mem_cons_of_mem _ hq)) ag.le al a1
      refine ⟨S2, ag.trans ag2, ?_⟩
      have ew : whileL (evT cl (.cmp .gt (.bi .len (.cons (.v 2) .nil)) (.c (.int 0)))) (exss cl (firstB kk kr)) (m + 1) [th, some (.loc l), some (.loc w), v3, v4, v5, v6, v7] S = whileL (evT cl (.cmp .gt (.bi .len (.cons (.v 2) .nil)) (.c (.int 0)))) (exss cl (firstB kk kr)) m [th, some (.loc l), some (.loc w), u3, u4, u5, u6, u7] S1 := by
        rw [whileL, g, st_ok, if_pos rfl, e]
      rw [ew]
      exact r
theorem first_ok (hr : SRule (cl kr)) (hk : SKids (cl kk)) : SFirst (runD cl 2 8 (m_first_step kk kr)) := by
  intro t S l bk h hd hz
  have hli := getE_lt h
  obtain ⟨S', ag, r⟩ := first_while (th := some (.p t.e)) (l := l) (w := S.length) (n := S.length) (bk := bk) hr hk (by omega) (by omega) WL [([], t)] none none none none none (S ++ [.lst [encPT ([], t)]]) (by simp only [szs, WL, List.map_cons, List.map_nil, List.sum_cons, List.sum_nil]; omega) (by simp only [szs, List.map_cons, List.map_nil, List.sum_cons, List.sum_nil]; omega) (fun q hq => by
    simp only [List.mem_singleton] at hq; subst hq; simp only [List.length_nil]; omega) (by simp) (by rw [at_old (has_of h)]; exact h) (by simp)
  have ag' : Ag S.length S S' := ((Ag.refl (Nat.le_refl _)).app).trans ag
  have tk := ag'.take
  unfold m_first_step
  unfold firstB pushF at r
  have enc0 : encPT ([], t) = .tuple [.tuple [], t.e] := rfl
  rw [enc0] at r
  rw [firstT_one] at r
  cases c : firstS bk t with
  | some q =>
    rw [c] at r
    dsimp only at r
    simp [runD]
    try simp at r
    rw [r]
    simp [oR, tk]
  | none =>
    rw [c] at r
    dsimp only at r
    obtain ⟨en, r⟩ := r
    simp [runD]
    try simp at r
    rw [r]
    simp [oR, tk]
end
/-- what the steps come to -/
inductive NR
  | thing (t : Th) (lg : List Row) | dry (t : Th) (lg : List Row) | great (t : Th) (lg : List Row)
def runT (bk : Bk) : Nat → Th → List Row → NR
  | 0, t, lg => match firstS bk t with
    | none => .thing t lg
    | some _ => .dry t lg
  | k + 1, t, lg => match firstS bk t with
    | none => .thing t lg
    | some r => match stepT bk t r.1 with
      | .thing u => runT bk k u (lg ++ [r])
      | _ => .great t lg
theorem first_at {bk : Bk} {t : Th} {r : Row} (h : firstS bk t = some r) : ∃ u, Th.atP r.1 t = some u ∧ u.rl bk = some r.2 := by
  unfold firstS at h
  obtain ⟨q, hq, e⟩ := List.exists_of_findSome?_eq_some h
  obtain ⟨p, u⟩ := q
  unfold rlQ at e
  obtain ⟨s, e1, e2⟩ := Option.map_eq_some_iff.mp e
  subst e2
  obtain ⟨x, e3, e4, _⟩ := pre_at t [] p u hq
  simp only [List.nil_append] at e3
  subst e3
  exact ⟨u, e4, e1⟩
theorem stepT_first {bk : Bk} {t : Th} {r : Row} (h : firstS bk t = some r) : (∃ u, stepT bk t r.1 = .thing u) ∨ stepT bk t r.1 = .great := by
  obtain ⟨u, e1, e2⟩ := first_at h
  unfold stepT
  rw [e1]
  dsimp only
  rw [e2]
  dsimp only
  cases u.turn bk with
  | none => exact .inr rfl
  | some v =>
    dsimp only
    split
    · exact .inr rfl
    · exact .inl ⟨_, rfl⟩
theorem runT_none {bk : Bk} {k : Nat} {t : Th} {lg : List Row} (h : firstS bk t = none) : runT bk k t lg = .thing t lg := by
  cases k <;> simp only [runT, h]
theorem gc_m2 {w : Nat} {S S' : Sto} {c : Cell} {x : P} (h : Ag S.length S S') (hw : S.length ≤ w) (e : S'[w]? = some c) : gc S.length (.mt [.p x, .loc w]) S' = .ok (.mt [.p x, .loc S.length]) (S ++ [c]) := by
  unfold gc
  have n1 : ¬ w < S.length := by omega
  simp [gcV, gcVs, n1, e, h.take]
theorem gc_m3 {w : Nat} {S S' : Sto} {c : Cell} {x y : P} (h : Ag S.length S S') (hw : S.length ≤ w) (e : S'[w]? = some c) : gc S.length (.mt [.p x, .p y, .loc w]) S' = .ok (.mt [.p x, .p y, .loc S.length]) (S ++ [c]) := by
  unfold gc
  have n1 : ¬ w < S.length := by omega
  simp [gcV, gcVs, n1, e, h.take]
def nrR (g d : Nat) (S : Sto) : NR → R PV
  | .thing t lg => .ok (.mt [.p t.e, .loc S.length]) (S ++ [.lst (lg.map encR)])
  | .dry _ _ => .ex d S
  | .great _ _ => .ex g S
def SNorm (c : Cf) (g d : Nat) : Prop := ∀ (t : Th) (f : Nat) (S : Sto) (l : Nat) (bk : Bk), S[l]? = some (.dct (encB bk)) → BkS bk → t.sz ≤ 600 → t.dp ≤ 40 → f ≤ 100000 → c [.p t.e, .p (.int (f : Int)), .loc l] S = nrR g d S (runT bk f t [])
def normB (kf ks d : Nat) : Sms := (.cons (.ift (.cmp .eq (.bi .len (.cons (.v 3) .nil)) (.v 1)) (.cons (.raise d)
    .nil) .nil)
    (.cons (.asg (.nm 0) (.call ks (.cons (.v 0) (.cons (.ix (.v 4) (.c (.int 0))) (.cons (.v 2) .nil)))))
    (.cons (.ex (.mth .append (.v 3) (.cons (.v 4) .nil)))
    (.cons (.asg (.nm 4) (.call kf (.cons (.v 0) (.cons (.v 2) .nil))))
    .nil))))
section
variable {cl : Cl} {kf ks g np ns d : Nat}
theorem norm_loop {S0 : Sto} {l f : Nat} {bk : Bk} (hf : SFirst (cl kf)) (hs : SStep (cl ks) g np ns) (hl : S0[l]? = some (.dct (encB bk))) (hb : BkS bk) (hf5 : f ≤ 100000) : ∀ (k : Nat) (t : Th) (lg : List Row) (m : Nat), k < m → lg.length + k = f → t.sz ≤ 600 → t.dp ≤ 40 →
    match runT bk k t lg with
    | .thing u lg' => whileL (evT cl (.cmp .isn (.v 4) (.c .none))) (exss cl (normB kf ks d)) m [some (.p t.e), some (.p (.int (f : Int))), some (.loc l), some (.loc S0.length), some (.p (oR (firstS bk t)))] (S0 ++ [.lst (lg.map encR)]) = .nx [some (.p u.e), some (.p (.int (f : Int))), some (.loc l), some (.loc S0.length), some (.p .none)] (S0 ++ [.lst (lg'.map encR)])
    | .dry _ _ => ∃ en S', whileL (evT cl (.cmp .isn (.v 4) (.c .none))) (exss cl (normB kf ks d)) m [some (.p t.e), some (.p (.int (f : Int))), some (.loc l), some (.loc S0.length), some (.p (oR (firstS bk t)))] (S0 ++ [.lst (lg.map encR)]) = .ex d en S' ∧ S'.take S0.length = S0
    | .great _ _ => ∃ en S', whileL (evT cl (.cmp .isn (.v 4) (.c .none))) (exss cl (normB kf ks d)) m [some (.p t.e), some (.p (.int (f : Int))), some (.loc l), some (.loc S0.length), some (.p (oR (firstS bk t)))] (S0 ++ [.lst (lg.map encR)]) = .ex g en S' ∧ S'.take S0.length = S0 := by
  intro k
  induction k with
  | zero =>
    intro t lg m hm hlg hz hd
    cases m with
    | zero => omega
    | succ m =>
      cases c : firstS bk t with
      | none =>
        simp only [runT, c]
        rw [whileL]
        simp [oR]
      | some r =>
        simp only [runT, c]
        have e : lg.length = f := by omega
        refine ⟨[some (.p t.e), some (.p (.int (f : Int))), some (.loc l), some (.loc S0.length), some (.p (encR r))], S0 ++ [.lst (lg.map encR)], ?_, by simp⟩
        rw [whileL]
        unfold normB
        simp [oR, encR, e]
  | succ k ih =>
    intro t lg m hm hlg hz hd
    cases m with
    | zero => omega
    | succ m =>
      cases c : firstS bk t with
      | none =>
        simp only [runT, c]
        rw [whileL]
        simp [oR]
      | some r =>
        simp only [runT, c]
        have e : ¬ ((lg.length : Int) = (f : Int)) := by omega
        have hl1 : ∀ c : Cell, (S0 ++ [c])[l]? = some (.dct (encB bk)) := fun c => by rw [at_old (has_of hl)]; exact hl
        have es := hs t r.1 (S0 ++ [.lst (lg.map encR)]) l bk (hl1 _) hb hz hd
        have ll : lg.length < 1000000 := by omega
        rcases stepT_first c with ⟨u, eu⟩ | eu
        · rw [eu] at es
          rw [eu]
          simp only [stR] at es
          have fit := step_fit eu
          have ef := hf u (S0 ++ [.lst ((lg ++ [r]).map encR)]) l bk (hl1 _) (by omega) (by omega)
          have := ih u (lg ++ [r]) m (by omega) (by simp; omega) fit.1 fit.2.1
          dsimp only
          have ew : whileL (evT cl (.cmp .isn (.v 4) (.c .none))) (exss cl (normB kf ks d)) (m + 1) [some (.p t.e), some (.p (.int (f : Int))), some (.loc l), some (.loc S0.length), some (.p (oR (some r)))] (S0 ++ [.lst (lg.map encR)]) = whileL (evT cl (.cmp .isn (.v 4) (.c .none))) (exss cl (normB kf ks d)) m [some (.p u.e), some (.p (.int (f : Int))), some (.loc l), some (.loc S0.length), some (.p (oR (firstS bk u)))] (S0 ++ [.lst ((lg ++ [r]).map encR)]) := by
            rw [whileL]
            have b : exss cl (normB kf ks d) [some (.p t.e), some (.p (.int (f : Int))), some (.loc l), some (.loc S0.length), some (.p (oR (some r)))] (S0 ++ [.lst (lg.map encR)]) = .nx [some (.p u.e), some (.p (.int (f : Int))), some (.loc l), some (.loc S0.length), some (.p (oR (firstS bk u)))] (S0 ++ [.lst ((lg ++ [r]).map encR)]) := by
              unfold normB
              have e9 : encR r = .tuple [encI r.1, .str r.2] := rfl
              simp only [List.map_append, List.map_cons, List.map_nil] at ef ⊢
              rw [e9] at ef ⊢
              simp [oR, e9, e, es, ef, ll]
            have gd : evT cl (.cmp .isn (.v 4) (.c .none)) [some (.p t.e), some (.p (.int (f : Int))), some (.loc l), some (.loc S0.length), some (.p (oR (some r)))] (S0 ++ [.lst (lg.map encR)]) = .ok true (S0 ++ [.lst (lg.map encR)]) := by
              simp [oR, encR]
            rw [gd, st_ok, if_pos rfl, b]
          rw [ew]
          exact this
        · rw [eu] at es
          rw [eu]
          simp only [stR] at es
          dsimp only
          refine ⟨[some (.p t.e), some (.p (.int (f : Int))), some (.loc l), some (.loc S0.length), some (.p (encR r))], S0 ++ [.lst (lg.map encR)], ?_, by simp⟩
          rw [whileL]
          unfold normB
          have e9 : encR r = .tuple [encI r.1, .str r.2] := rfl
          simp [oR, e9, e, es]
theorem normal_ok (hf : SFirst (cl kf)) (hs : SStep (cl ks) g np ns) : SNorm (runD cl 3 5 (m_normal kf ks d)) g d := by
  intro t f S l bk hl hb hz hd hf5
  have hl1 : (S ++ [.lst []])[l]? = some (.dct (encB bk)) := by rw [at_old (has_of hl)]; exact hl
  have ef := hf t (S ++ [.lst []]) l bk hl1 (by omega) (by omega)
  have r := norm_loop (d := d) hf hs hl hb hf5 f t [] WL (by unfold WL; omega) (by simp) hz hd
  unfold m_normal
  unfold normB at r
  cases c : runT bk f t [] with
  | thing u lg =>
    rw [c] at r
    dsimp only at r
    simp [runD, ef, nrR]
    simp at r
    rw [r]
    simp [gcV, gcVs, gc]
  | dry u lg =>
    rw [c] at r
    dsimp only at r
    obtain ⟨en, S', r, tk⟩ := r
    simp [runD, ef, nrR]
    simp at r
    rw [r]
    simp [tk]
  | great u lg =>
    rw [c] at r
    dsimp only at r
    obtain ⟨en, S', r, tk⟩ := r
    simp [runD, ef, nrR]
    simp at r
    rw [r]
    simp [tk]
end
end Kp

set_option Elab.async false
set_option linter.all false
set_option maxRecDepth 100000
set_option maxHeartbeats 8000000
set_option autoImplicit false
/-! S42: what stays sound through steps; good books; rows that can be laid out. -/
namespace Kp
open PySem PySem.Spec PyProof.Rows L2
/-- names can be laid out, no number is below nought -/
@[simp] def Th.gd : Th → Prop
  | .var n => 0 ≤ n
  | .nm s => PyData.strOk s = true
  | .n0 _ => True
  | .n1 _ a => a.gd
  | .n2 _ a b => a.gd ∧ b.gd
  | .n3 _ a b c => a.gd ∧ b.gd ∧ c.gd
  | .rc a b c d => a.gd ∧ b.gd ∧ c.gd ∧ d.gd
theorem gd_so : ∀ t : Th, t.gd → t.so
  | .var n, h => trivial
  | .nm s, h => h
  | .n0 _, _ => trivial
  | .n1 _ a, h => gd_so a h
  | .n2 _ a b, h => ⟨gd_so a h.1, gd_so b h.2⟩
  | .n3 _ a b c, h => ⟨gd_so a h.1, gd_so b h.2.1, gd_so c h.2.2⟩
  | .rc a b c d, h => ⟨gd_so a h.1, gd_so b h.2.1, gd_so c h.2.2.1, gd_so d h.2.2.2⟩
theorem gd_of : ∀ t : Th, t.so → t.vs → t.gd
  | .var n, _, h => h.1
  | .nm s, h, _ => h
  | .n0 _, _, _ => trivial
  | .n1 _ a, h, v => gd_of a h v
  | .n2 _ a b, h, v => ⟨gd_of a h.1 v.1, gd_of b h.2 v.2⟩
  | .n3 _ a b c, h, v => ⟨gd_of a h.1 v.1, gd_of b h.2.1 v.2.1, gd_of c h.2.2 v.2.2⟩
  | .rc a b c d, h, v => ⟨gd_of a h.1 v.1, gd_of b h.2.1 v.2.1, gd_of c h.2.2.1 v.2.2.1, gd_of d h.2.2.2 v.2.2.2⟩
theorem gd_vs : ∀ t : Th, t.gd → t.gs ≤ 99 → t.vs
  | .var n, h, v => ⟨h, by simp only [Th.gs] at v; omega⟩
  | .nm s, _, _ => trivial
  | .n0 _, _, _ => trivial
  | .n1 _ a, h, v => gd_vs a h v
  | .n2 _ a b, h, v => by
    simp only [Th.gs, mx] at v
    exact ⟨gd_vs a h.1 (by split at v <;> omega), gd_vs b h.2 (by split at v <;> omega)⟩
  | .n3 _ a b c, h, v => by
    simp only [Th.gs, mx] at v
    refine ⟨gd_vs a h.1 ?_, gd_vs b h.2.1 ?_, gd_vs c h.2.2 ?_⟩ <;> (repeat' split at v) <;> omega
  | .rc a b c d, h, v => by
    simp only [Th.gs, mx] at v
    refine ⟨gd_vs a h.1 ?_, gd_vs b h.2.1 ?_, gd_vs c h.2.2.1 ?_, gd_vs d h.2.2.2 ?_⟩ <;> (repeat' split at v) <;> omega
theorem u2b (w : U2) : 0 ≤ w.b := by cases w <;> decide
theorem u3b (w : U3) : 0 ≤ w.b := by cases w <;> decide
theorem mv_gd {by' : Int} (hb : 0 ≤ by') : ∀ (t : Th) (low : Int), t.gd → (t.mv by' low).gd
  | .var n, low, h => by
    have h : 0 ≤ n := h
    simp only [Th.mv]
    split
    · show 0 ≤ n + by'
      omega
    · exact h
  | .nm s, _, h => h
  | .n0 _, _, _ => trivial
  | .n1 _ a, _, h => mv_gd hb a _ h
  | .n2 _ a b, _, h => ⟨mv_gd hb a _ h.1, mv_gd hb b _ h.2⟩
  | .n3 _ a b c, _, h => ⟨mv_gd hb a _ h.1, mv_gd hb b _ h.2.1, mv_gd hb c _ h.2.2⟩
  | .rc a b c d, _, h => ⟨mv_gd hb a _ h.1, mv_gd hb b _ h.2.1, mv_gd hb c _ h.2.2.1, mv_gd hb d _ h.2.2.2⟩
theorem pl_gd {o : Th} {at' : Int} (ho : o.gd) (ha : 0 ≤ at') : ∀ (t : Th) (over : Int), 0 ≤ over → t.gd → (o.pl at' over t).gd
  | .var n, over, h0, h => by
    have h : 0 ≤ n := h
    simp only [Th.pl]
    split
    · exact mv_gd h0 o 0 ho
    · split
      · show 0 ≤ n - 1
        omega
      · exact h
  | .nm s, _, _, h => h
  | .n0 _, _, _, _ => trivial
  | .n1 _ a, _, h0, h => pl_gd ho ha a _ h0 h
  | .n2 w a b, _, h0, h => ⟨pl_gd ho ha a _ h0 h.1, pl_gd ho ha b _ (by have := u2b w; omega) h.2⟩
  | .n3 w a b c, _, h0, h => ⟨pl_gd ho ha a _ (by have := u3b w; omega) h.1, pl_gd ho ha b _ h0 h.2.1, pl_gd ho ha c _ h0 h.2.2⟩
  | .rc a b c d, _, h0, h => ⟨pl_gd ho ha a _ (by omega) h.1, pl_gd ho ha b _ h0 h.2.1, pl_gd ho ha c _ h0 h.2.2.1, pl_gd ho ha d _ h0 h.2.2.2⟩
/-- a good book -/
structure BkG (bk : Bk) : Prop where
  nd : (bk.map (·.1)).Nodup
  al : ∀ q ∈ bk, q.2.1.so ∧ q.2.1.dp ≤ 40 ∧ q.2.2.so ∧ q.2.2.vs ∧ q.2.2.dp ≤ 40
theorem BkG.s {bk : Bk} (h : BkG bk) : BkS bk := fun q hq => ⟨(h.al q hq).2.2.2.2, (h.al q hq).2.2.2.1⟩
theorem BkG.of {ws : List Str} {bk : Bk} (ho : ∀ w ∈ ws, PyData.strOk w = true) (h : BkOk ws bk) : BkG bk := ⟨h.nd, fun q hq => by
  obtain ⟨h1, h2, h3, h4, h5⟩ := h.al q hq
  have c := ok_dp _ _ _ h2
  have d := ok_dp _ _ _ h4
  exact ⟨ok_so ho _ _ _ h2, by omega, ok_so ho _ _ _ h4, ok_vs _ _ _ h4, by omega⟩⟩
theorem BkG.put {bk : Bk} {w : Str} {a b : Th} (h : BkG bk) (ha : a.so) (da : a.dp ≤ 40) (hb : b.so) (vb : b.vs) (db : b.dp ≤ 40) : BkG (putB bk w (a, b)) := by
  unfold putB
  split
  · refine ⟨?_, fun q hq => ?_⟩
    · rw [List.map_map]
      have e : ((fun x : Str × Th × Th => x.1) ∘ fun p => if p.1 = w then (p.1, a, b) else p) = fun x => x.1 := by
        funext p
        simp only [Function.comp]
        split <;> rfl
      rw [e]; exact h.nd
    · obtain ⟨p, hp, rfl⟩ := List.mem_map.mp hq
      split
      · exact ⟨ha, da, hb, vb, db⟩
      · exact h.al p hp
  · rename_i hn
    refine ⟨?_, fun q hq => ?_⟩
    · rw [List.map_append, List.nodup_append]
      refine ⟨h.nd, by simp, fun x hx y hy e => hn ?_⟩
      simp only [List.map_cons, List.map_nil, List.mem_singleton] at hy
      subst e hy
      obtain ⟨p, hp, e⟩ := List.mem_map.mp hx
      exact List.any_eq_true.mpr ⟨p, hp, by simp [e]⟩
    · rcases List.mem_append.mp hq with hq | hq
      · exact h.al q hq
      · simp only [List.mem_singleton] at hq
        subst hq
        exact ⟨ha, da, hb, vb, db⟩
theorem BkG.dsh {bk : Bk} (h : BkG bk) : dshB (encB bk) = true := by
  unfold dshB encB
  rw [List.all_map, List.all_eq_true]
  intro q hq
  obtain ⟨h1, h2, h3, _, h4⟩ := h.al q hq
  have a := dep_e q.2.1
  have b := dep_e q.2.2
  have x1 := lay_e _ h1
  have x2 := lay_e _ h3
  simp only [Function.comp, PyData.canLay0, PyData.canLayAll0, x1, x2, PyData.depth, PyData.depthAll, Bool.and_eq_true, decide_eq_true_eq]
  refine ⟨by simp, ?_⟩
  apply decide_eq_true
  omega
theorem BkG.self {bk : Bk} (h : BkG bk) : dqP (encB bk) (encB bk) = true := by
  unfold dqP
  rw [beq_self_eq_true, Bool.true_and, List.all_eq_true]
  intro p hp
  unfold encB at hp
  obtain ⟨q, hq, rfl⟩ := List.mem_map.mp hp
  have lu : luK (encB bk) (.inr q.1) = some (.tuple [q.2.1.e, q.2.2.e]) := by
    rw [luK_encB]
    have key : ∀ l : Bk, (l.map (·.1)).Nodup → q ∈ l → l.find? (fun p => decide (p.1 = q.1)) = some q := by
      intro l
      induction l with
      | nil => intro _ h; cases h
      | cons a r ih =>
        intro nd hm
        rw [List.map_cons, List.nodup_cons] at nd
        rw [List.find?_cons]
        rcases List.mem_cons.mp hm with e | hm
        · subst e; simp
        · by_cases e : a.1 = q.1
          · exact absurd (List.mem_map.mpr ⟨q, hm, e.symm⟩) nd.1
          · simp [e, ih nd.2 hm]
    rw [key bk h.nd hq]
    rfl
  dsimp only
  rw [lu]
  dsimp only
  obtain ⟨h1, _, h3, _⟩ := h.al q hq
  have x1 := lay_e _ h1
  have x2 := lay_e _ h3
  exact SeqAt.eqv_refl _ (by simp only [PyData.canLay0, PyData.canLayAll0, x1, x2]; rfl)
theorem turn_gd {bk : Bk} (hb : BkG bk) {t u : Th} (hg : t.gd) (h : t.turn bk = some u) : u.gd := by
  unfold Th.turn at h
  split at h
  · unfold putO bdO at h
    split at h
    · cases h
    · split at h
      · cases h
      · have := Option.some.inj h
        subst this
        exact pl_gd hg.2 (by omega) _ _ (by omega) hg.1.2
  · have := Option.some.inj h
    subst this
    exact hg.2.1
  · unfold bdO at h
    split at h
    · cases h
    · have := Option.some.inj h
      subst this
      exact ⟨⟨hg.2.2.1, hg.2.2.2⟩, hg.1, hg.2.1, hg.2.2.1, hg.2.2.2⟩
  · have := Option.some.inj h
    subst this
    exact hg.2.1
  · have := Option.some.inj h
    subst this
    exact hg.2.1
  · have := Option.some.inj h
    subst this
    exact hg.2.2
  · obtain ⟨q, hq, rfl⟩ := Option.map_eq_some_iff.mp h
    have := hb.al q (List.mem_of_find?_eq_some hq)
    exact gd_of _ this.2.2.1 this.2.2.2.1
  · cases h
theorem if_gd {t u : Th} {q : Prop} [Decidable q] (h : t.gd) (hu : u.gd) : (if q then u else t).gd := by split <;> assumption
theorem setK_gd {t u : Th} {n : Nat} (h : t.gd) (hu : u.gd) : (t.setK n u).gd := by
  cases t with
  | n1 w a => exact if_gd h hu
  | n2 w a b => exact ⟨if_gd h.1 hu, if_gd h.2 hu⟩
  | n3 w a b c => exact ⟨if_gd h.1 hu, if_gd h.2.1 hu, if_gd h.2.2 hu⟩
  | rc a b c d => exact ⟨if_gd h.1 hu, if_gd h.2.1 hu, if_gd h.2.2.1 hu, if_gd h.2.2.2 hu⟩
  | _ => exact h
theorem kids_gd (t : Th) (h : t.gd) : ∀ k ∈ t.kids, k.gd := by
  cases t with
  | n1 w a => simpa using h
  | n2 w a b => obtain ⟨h1, h2⟩ := h; intro k hk; simp at hk; rcases hk with rfl | rfl <;> assumption
  | n3 w a b c => obtain ⟨h1, h2, h3⟩ := h; intro k hk; simp at hk; rcases hk with rfl | rfl | rfl <;> assumption
  | rc a b c d => obtain ⟨h1, h2, h3, h4⟩ := h; intro k hk; simp at hk; rcases hk with rfl | rfl | rfl | rfl <;> assumption
  | _ => simp
theorem atP_gd : ∀ (p : List Int) (t u : Th), Th.atP p t = some u → t.gd → u.gd
  | [], t, u, h, hg => by
    have : t = u := Option.some.inj h
    subst this
    exact hg
  | i :: p, t, u, h, hg => by
    rw [atP_c] at h
    cases q : t.kidI i with
    | none => rw [q] at h; cases h
    | some k =>
      rw [q] at h
      obtain ⟨_, _, e⟩ := kidI_cases q
      exact atP_gd p k u h (kids_gd t hg k (List.mem_of_getElem? e))
theorem wtP_gd : ∀ (p : List Int) (t u : Th), t.gd → u.gd → (Th.wtP p t u).gd
  | [], _, _, _, h => h
  | i :: p, t, u, h1, h2 => by
    rw [Th.wtP]
    cases q : t.kidI i with
    | none => exact h1
    | some k =>
      obtain ⟨_, _, e⟩ := kidI_cases q
      exact setK_gd h1 (wtP_gd p k u (kids_gd t h1 k (List.mem_of_getElem? e)) h2)
theorem step_gd {bk : Bk} (hb : BkG bk) {t u : Th} {p : List Int} (hg : t.gd) (h : stepT bk t p = .thing u) : u.gd := by
  unfold stepT at h
  split at h
  · cases h
  · rename_i x hx
    split at h
    · cases h
    · split at h
      · cases h
      · rename_i v hv
        split at h
        · cases h
        · have e : Th.wtP p t v = u := by injection h
          rw [← e]
          exact wtP_gd p t v hg (turn_gd hb (atP_gd p t x hx hg) hv)
/-! rows laid out -/
theorem rl_names {bk : Bk} {t : Th} {r : Str} (h : t.rl bk = some r) : PyData.strOk r = true := by
  unfold Th.rl at h
  repeat' split at h
  all_goals (cases h; try decide +kernel)
theorem lay_oS {bk : Bk} {t : Th} : (oS (t.rl bk)).canLay0 = true := by
  cases h : t.rl bk with
  | none => rfl
  | some r => simp only [oS, PyData.canLay0, rl_names h]
theorem dep_oS {o : Option Str} : (oS o).depth = 0 := by cases o <;> rfl
theorem lay_encI (p : List Int) : (encI p).canLay0 = true := by unfold encI; simp only [PyData.canLay0, lay_ints]
theorem dep_encI (p : List Int) : (encI p).depth = 1 := by unfold encI; simp only [PyData.depth, dep_ints]
theorem lay_all : ∀ {l : List P}, (∀ x ∈ l, x.canLay0 = true) → PyData.canLayAll0 l = true
  | [], _ => rfl
  | x :: l, h => by rw [PyData.canLayAll0, h x List.mem_cons_self, lay_all fun y hy => h y (List.mem_cons_of_mem _ hy)]; rfl
theorem dep_all {d : Nat} : ∀ {l : List P}, (∀ x ∈ l, x.depth ≤ d) → PyData.depthAll l ≤ d
  | [], _ => by simp [PyData.depthAll]
  | x :: l, h => by
    have := h x List.mem_cons_self
    have := dep_all fun y hy => h y (List.mem_cons_of_mem _ hy)
    simp only [PyData.depthAll]
    omega
theorem sh_list {l : List P} (h : ∀ x ∈ l, x.canLay0 = true) (d : ∀ x ∈ l, x.depth ≤ 60) : SeqAt.shaped (.list l) = true := by
  unfold SeqAt.shaped
  have := dep_all d
  simp only [PyData.canLay0, PyData.depth, lay_all h, Bool.true_and]
  apply decide_eq_true
  omega
theorem sh_th {t : Th} (h : t.so) (d : t.dp ≤ 60) : SeqAt.shaped t.e = true := by
  unfold SeqAt.shaped
  have := dep_e t
  rw [lay_e t h, Bool.true_and]
  apply decide_eq_true
  omega
theorem pre_gd {t : Th} (h : t.gd) {p q : List Int} {u : Th} (hq : (q, u) ∈ t.pre p) : u.gd ∧ u.dp ≤ t.dp := by
  obtain ⟨r, _, e, d⟩ := pre_at t p q u hq
  exact ⟨atP_gd r t u e h, by omega⟩
theorem lay_row {bk : Bk} {q : List Int × Th} (h : q.2.so) : (rowP bk q).canLay0 = true := by
  unfold rowP
  simp only [PyData.canLay0, PyData.canLayAll0, lay_ints, lay_e _ h, lay_oS]
  rfl
theorem dep_row {bk : Bk} {q : List Int × Th} : (rowP bk q).depth ≤ q.2.dp + 2 := by
  unfold rowP
  have := dep_e q.2
  simp only [PyData.depth, PyData.depthAll, dep_ints, dep_oS]
  omega
theorem sh_rows {bk : Bk} {l : List (List Int × Th)} (h : ∀ q ∈ l, q.2.so ∧ q.2.dp ≤ 40) : SeqAt.shaped (.list (l.map (rowP bk))) = true := by
  refine sh_list (fun x hx => ?_) fun x hx => ?_
  · obtain ⟨q, hq, rfl⟩ := List.mem_map.mp hx
    exact lay_row (h q hq).1
  · obtain ⟨q, hq, rfl⟩ := List.mem_map.mp hx
    have := (h q hq).2
    have := dep_row (bk := bk) (q := q)
    omega
theorem lay_encR {r : Row} (h : PyData.strOk r.2 = true) : (encR r).canLay0 = true := by
  unfold encR
  simp only [PyData.canLay0, PyData.canLayAll0, lay_encI, h]
  rfl
theorem dep_encR {r : Row} : (encR r).depth = 2 := by
  unfold encR
  simp only [PyData.depth, PyData.depthAll, dep_encI]
  rfl
theorem sh_log {l : List Row} (h : ∀ r ∈ l, PyData.strOk r.2 = true) : SeqAt.shaped (.list (l.map encR)) = true := by
  refine sh_list (fun x hx => ?_) fun x hx => ?_
  · obtain ⟨q, hq, rfl⟩ := List.mem_map.mp hx
    exact lay_encR (h q hq)
  · obtain ⟨q, hq, rfl⟩ := List.mem_map.mp hx
    rw [dep_encR]; omega
theorem sh_lay {d : P} (h : SeqAt.shaped d = true) : d.canLay0 = true := by
  unfold SeqAt.shaped at h
  rw [Bool.and_eq_true] at h
  exact h.1
/-- lists compared -/
theorem e_ll {S : Sto} {a b : Nat} {xs ys : List P} (ha : S[a]? = some (.lst xs)) (hb : S[b]? = some (.lst ys)) (h : SeqAt.shaped (.list xs) = true) (h2 : SeqAt.shaped (.list ys) = true) : eqV' (.loc a) (.loc b) S = .ok (PyData.eqv (.list xs) (.list ys)) S := by
  unfold eqV' datV
  dsimp only
  rw [ha, hb]
  dsimp only
  rw [h, h2]
  rfl
theorem e_pp {S : Sto} {x : P} (h : SeqAt.shaped x = true) : eqV' (.p x) (.p x) S = .ok true S := by
  have e := SeqAt.eqv_refl x (sh_lay h)
  unfold eqV'
  split
  · rename_i i j h1 h2
    simp only [PV.p.injEq] at h1 h2
    rw [h1] at h2
    have := PyData.int.inj h2
    subst this
    simp
  · rename_i i j h1 h2
    simp only [PV.p.injEq] at h1 h2
    rw [h1] at h2
    have := PyData.str.inj h2
    subst this
    simp
  · show (if (SeqAt.shaped x && SeqAt.shaped x) = true then _ else _) = _
    rw [h, e]
    rfl
theorem e_nil {S : Sto} {a b : Nat} {xs : List P} (ha : S[a]? = some (.lst xs)) (hb : S[b]? = some (.lst [])) (h : SeqAt.shaped (.list xs) = true) : eqV' (.loc a) (.loc b) S = .ok xs.isEmpty S := by
  rw [e_ll ha hb h (sh_list (fun x hx => absurd hx List.not_mem_nil) fun x hx => absurd hx List.not_mem_nil)]
  cases xs <;> rfl
theorem e_same {S : Sto} {a b : Nat} {xs : List P} (ha : S[a]? = some (.lst xs)) (hb : S[b]? = some (.lst xs)) (h : SeqAt.shaped (.list xs) = true) : eqV' (.loc a) (.loc b) S = .ok true S := by
  rw [e_ll ha hb h h, SeqAt.eqv_refl _ (sh_lay h)]
/-! the rows at which something steps -/
def stepsL (bk : Bk) (t : Th) : List (List Int × Th) := (t.pre []).filter fun q => (q.2.rl bk).isSome
theorem firstS_nil {bk : Bk} {t : Th} (h : stepsL bk t = []) : firstS bk t = none := by
  unfold firstS
  rw [List.findSome?_eq_none_iff]
  intro q hq
  unfold stepsL at h
  rw [List.filter_eq_nil_iff] at h
  have := h q hq
  unfold rlQ
  cases e : q.2.rl bk with
  | none => rfl
  | some r => rw [e] at this; exact absurd rfl this
theorem firstS_cons {bk : Bk} {t : Th} {q : List Int × Th} {r : List (List Int × Th)} (h : stepsL bk t = q :: r) : ∃ s, q.2.rl bk = some s ∧ firstS bk t = some (q.1, s) := by
  unfold stepsL at h
  unfold firstS
  revert h
  generalize t.pre [] = l
  intro h
  induction l with
  | nil => simp at h
  | cons x l ih =>
    rw [List.filter_cons] at h
    rw [List.findSome?_cons]
    cases e : x.2.rl bk with
    | none =>
      rw [e] at h
      simp only [rlQ, e, Option.map_none]
      exact ih (by simpa using h)
    | some s =>
      rw [e] at h
      simp only [Option.isSome_some, if_true] at h
      injection h with h1 h2
      subst h1
      exact ⟨s, e, by simp only [rlQ, e, Option.map_some]⟩
theorem steps_ok {bk : Bk} {t : Th} (h : t.gd) (d : t.dp ≤ 40) : ∀ q ∈ stepsL bk t, q.2.so ∧ q.2.dp ≤ 40 := by
  intro q hq
  obtain ⟨p, u⟩ := q
  have := pre_gd h (List.mem_filter.mp hq).1
  exact ⟨gd_so _ this.1, Nat.le_trans this.2 d⟩
theorem run_gd {bk : Bk} (hb : BkG bk) : ∀ (k : Nat) (t : Th) (lg : List Row), t.gd → t.sz ≤ 600 → t.dp ≤ 40 → (∀ r ∈ lg, PyData.strOk r.2 = true) → ∀ u lg', runT bk k t lg = .thing u lg' → u.gd ∧ u.sz ≤ 600 ∧ u.dp ≤ 40 ∧ (∀ r ∈ lg', PyData.strOk r.2 = true) ∧ firstS bk u = none ∧ lg'.length ≤ lg.length + k
  | k, t, lg, hg, hz, hd, hl, u, lg', h => by
    cases c : firstS bk t with
    | none =>
      rw [runT_none c] at h
      injection h with h1 h2
      subst h1 h2
      exact ⟨hg, hz, hd, hl, c, by omega⟩
    | some r =>
      cases k with
      | zero => simp only [runT, c] at h; cases h
      | succ k =>
        simp only [runT, c] at h
        obtain ⟨x, hx, hr⟩ := first_at c
        rcases stepT_first c with ⟨v, ev⟩ | ev
        · rw [ev] at h
          dsimp only at h
          have fit := step_fit ev
          obtain ⟨a1, a2, a3, a4, a5, a6⟩ := run_gd hb k v (lg ++ [r]) (step_gd hb hg ev) fit.1 fit.2.1 (fun y hy => by
            rcases List.mem_append.mp hy with hy | hy
            · exact hl y hy
            · simp only [List.mem_singleton] at hy
              subst hy
              exact rl_names hr) u lg' h
          exact ⟨a1, a2, a3, a4, a5, by simp at a6; omega⟩
        · rw [ev] at h
          cases h
theorem pd_oS (o : Option Str) : pdB (oS o) (oS o) = true := by cases o <;> simp [oS, pdB]
theorem pd_ints : ∀ p : List Int, pdBs (p.map .int) (p.map .int) = true
  | [] => rfl
  | i :: p => by simp [pdBs, pdB, pd_ints p]
theorem pd_row (bk : Bk) (q : List Int × Th) : pdB (rowP bk q) (rowP bk q) = true := by
  simp [rowP, pdB, pdBs, pd_ints, pd_e, pd_oS]
end Kp

set_option Elab.async false
set_option linter.all false
set_option maxRecDepth 100000
set_option maxHeartbeats 8000000
set_option autoImplicit false
/-! S43: what is due of normal, by the law's own rows. -/
namespace Kp
open PySem PySem.Spec PyProof.Rows L2
section
variable {cl : Cl} {kro ks g np ns d kn kw : Nat}
/-- the comprehension that picks the rows at which something steps -/
theorem rows_pick {en : En} {S : Sto} {a b i l : Nat} {t : Th} {bk : Bk} (hr : SRows (cl kro)) (ha : en[a]? = some (some (.p t.e))) (hb : en[b]? = some (some (.loc l))) (hi : i < en.length) (hl : S[l]? = some (.dct (encB bk))) (hd : t.dp ≤ 900) (hz : t.sz ≤ 90000) :
    ev cl (.comp i (.val (.call kro (.cons (.v a) (.cons (.v b) .nil)))) (.one (.cmp .isn (.ix (.v i) (.c (.int 2))) (.c .none))) (.v i)) en S = .ok (.loc (S.length + 1)) (S ++ [.lst ((t.pre []).map (rowP bk)), .lst ((stepsL bk t).map (rowP bk))]) := by
  have e := hr t S l bk hl hd hz
  have e1 : ev cl (.call kro (.cons (.v a) (.cons (.v b) .nil))) en S = .ok (.loc S.length) (S ++ [.lst ((t.pre []).map (rowP bk))]) := by
    simp only [ev, evs, ha, hb, R.bind]
    exact e
  have cc := compL_ok (el := ev cl (.v i)) (tst := evC cl (.one (.cmp .isn (.ix (.v i) (.c (.int 2))) (.c .none)))) (i := i) (w := [(S.length, (t.pre []).map (rowP bk))]) (S0 := S ++ [.lst ((t.pre []).map (rowP bk))]) (en := en)
    (fun q : List Int × Th => PV.p (rowP bk q)) (fun q => (q.2.rl bk).isSome) (rowP bk) (fun q hq x hx => by
      simp only [List.mem_singleton] at hq
      subst hq
      obtain ⟨y, _, rfl⟩ := List.mem_map.mp hx
      exact pd_row bk y) (fun q hq => by
      simp only [List.mem_singleton] at hq
      subst hq
      simp) (t.pre []) [] (fun q _ acc => by
      have h1 : (en.set i (some (.p (rowP bk q))))[i]? = some (some (.p (rowP bk q))) := List.getElem?_set_self hi
      refine ⟨?_, fun _ => by simp only [ev, h1]⟩
      have h2 : rowP bk q = .tuple [.tuple (q.1.map .int), q.2.e, oS (q.2.rl bk)] := rfl
      simp only [evC, evT, ev, h1, R.bind]
      rw [h2]
      cases q.2.rl bk <;> rfl) (by rw [List.length_nil, pre_len]; omega)
  have hm : ((t.pre []).map (rowP bk)).map PV.p = (t.pre []).map fun q => PV.p (rowP bk q) := by rw [List.map_map]; rfl
  have h3 : (S ++ [Cell.lst ((t.pre []).map (rowP bk))])[S.length]? = some (.lst ((t.pre []).map (rowP bk))) := by simp
  have eI : evI cl (.val (.call kro (.cons (.v a) (.cons (.v b) .nil)))) en S = .ok ((t.pre []).map fun q => PV.p (rowP bk q), [(S.length, (t.pre []).map (rowP bk))]) (S ++ [.lst ((t.pre []).map (rowP bk))]) := by
    simp only [evI]
    rw [e1]
    show valI (.loc S.length) _ = _
    unfold valI
    dsimp only
    rw [h3]
    dsimp only
    rw [hm]
  rw [ev_comp, eI, bind_ok, kComp_, cc]
  simp [stepsL]
def nrW : NR → Str
  | .thing _ _ => "thing" | .dry _ _ => "dry" | .great _ _ => "great"
def nrT : NR → Th
  | .thing t _ => t | .dry t _ => t | .great t _ => t
def nrL : NR → List Row
  | .thing _ l => l | .dry _ l => l | .great _ l => l
def dueB (ks kro : Nat) (y n : List Nat) : Sms := (.cons (.asg (.nm 4) (.comp 5 (.val (.call kro (.cons (.v 0) (.cons (.v 2) .nil)))) (.one (.cmp .isn (.ix (.v 5) (.c (.int 2))) (.c .none))) (.v 5)))
    (.cons (.ift (.cmp .eq (.v 4) (.lst .nil)) (.cons (.ret (.tup (.cons (.c (.str "thing")) (.cons (.v 0) (.cons (.v 3) .nil)))))
    .nil) .nil)
    (.cons (.ift (.cmp .eq (.bi .len (.cons (.v 3) .nil)) (.v 1)) (.cons (.ret (.tup (.cons (.c (.str "dry")) (.cons (.v 0) (.cons (.v 3) .nil)))))
    .nil) .nil)
    (.cons (.tryM (.cons (.asg (.nm 0) (.call ks (.cons (.v 0) (.cons (.ix (.ix (.v 4) (.c (.int 0))) (.c (.int 0))) (.cons (.v 2) .nil)))))
    .nil) (.cons y n (.cons (.ret (.tup (.cons (.c (.str "great")) (.cons (.v 0) (.cons (.v 3) .nil)))))
    .nil)
    .nil))
    (.cons (.ex (.mth .append (.v 3) (.cons (.tup (.cons (.ix (.ix (.v 4) (.c (.int 0))) (.c (.int 0))) (.cons (.ix (.ix (.v 4) (.c (.int 0))) (.c (.int 2))) .nil))) .nil)))
    .nil)))))
theorem dueN_loop {y n : List Nat} {l w f n0 : Nat} {bk : Bk} (hr : SRows (cl kro)) (hs : SStep (cl ks) g np ns) (hy : y.contains g = true) (hb : BkG bk) (hf5 : f ≤ 100000) (lw : l ≠ w) (nw : n0 ≤ w) : ∀ (k : Nat) (t : Th) (lg : List Row) (m : Nat) (v4 v5 : Option PV) (S : Sto), k < m → lg.length + k = f → t.sz ≤ 600 → t.dp ≤ 40 → t.gd → n0 ≤ S.length → S[l]? = some (.dct (encB bk)) → S[w]? = some (.lst (lg.map encR)) →
    ∃ S', Ag n0 S S' ∧ S'[w]? = some (.lst ((nrL (runT bk k t lg)).map encR)) ∧ whileL (evT cl (.c (.bool true))) (exss cl (dueB ks kro y n)) m [some (.p t.e), some (.p (.int (f : Int))), some (.loc l), some (.loc w), v4, v5] S = .rt (.mt [.p (.str (nrW (runT bk k t lg))), .p (nrT (runT bk k t lg)).e, .loc w]) S' := by
  have hy2 : g ∈ y := by simpa using hy
  intro k
  induction k with
  | zero =>
    intro t lg m v4 v5 S hm hlg hz hd hg hn hl hw
    cases m with
    | zero => omega
    | succ m =>
      have pk := rows_pick (cl := cl) (kro := kro) (en := [some (.p t.e), some (.p (.int (f : Int))), some (.loc l), some (.loc w), v4, v5]) (a := 0) (b := 2) (i := 5) hr rfl rfl (by simp) hl (by omega) (by omega)
      have shr := sh_rows (bk := bk) (steps_ok (bk := bk) hg hd)
      have ag : Ag n0 S (S ++ [.lst ((t.pre []).map (rowP bk)), .lst ((stepsL bk t).map (rowP bk)), .lst []]) := (Ag.refl hn).app
      have wS : ∀ l2, (S ++ l2)[w]? = some (.lst (lg.map encR)) := fun l2 => by rw [at_old (has_of hw)]; exact hw
      have en := e_nil (S := S ++ [.lst ((t.pre []).map (rowP bk)), .lst ((stepsL bk t).map (rowP bk)), .lst []]) (a := S.length + 1) (b := S.length + 2) (xs := (stepsL bk t).map (rowP bk)) (by simp) (by simp) shr
      cases c : stepsL bk t with
      | nil =>
        rw [c] at pk ag en
        have c2 := firstS_nil c
        simp only [runT, c2, nrW, nrT, nrL]
        refine ⟨_, ag, wS _, ?_⟩
        rw [whileL]
        unfold dueB
        simp only [List.map_nil] at pk en ⊢
        simp [-ev_comp, pk, en]
      | cons q r =>
        rw [c] at pk ag en
        obtain ⟨s, c3, c2⟩ := firstS_cons c
        simp only [runT, c2, nrW, nrT, nrL]
        refine ⟨_, ag, wS _, ?_⟩
        rw [whileL]
        unfold dueB
        have e : lg.length = f := by omega
        simp only [List.map_cons] at pk en ⊢
        simp [-ev_comp, pk, en, wS, e]
  | succ k ih =>
    intro t lg m v4 v5 S hm hlg hz hd hg hn hl hw
    cases m with
    | zero => omega
    | succ m =>
      have pk := rows_pick (cl := cl) (kro := kro) (en := [some (.p t.e), some (.p (.int (f : Int))), some (.loc l), some (.loc w), v4, v5]) (a := 0) (b := 2) (i := 5) hr rfl rfl (by simp) hl (by omega) (by omega)
      have shr := sh_rows (bk := bk) (steps_ok (bk := bk) hg hd)
      have ag : Ag n0 S (S ++ [.lst ((t.pre []).map (rowP bk)), .lst ((stepsL bk t).map (rowP bk)), .lst []]) := (Ag.refl hn).app
      have wS : ∀ l2, (S ++ l2)[w]? = some (.lst (lg.map encR)) := fun l2 => by rw [at_old (has_of hw)]; exact hw
      have en := e_nil (S := S ++ [.lst ((t.pre []).map (rowP bk)), .lst ((stepsL bk t).map (rowP bk)), .lst []]) (a := S.length + 1) (b := S.length + 2) (xs := (stepsL bk t).map (rowP bk)) (by simp) (by simp) shr
      cases c : stepsL bk t with
      | nil =>
        rw [c] at pk ag en
        have c2 := firstS_nil c
        simp only [runT, c2, nrW, nrT, nrL]
        refine ⟨_, ag, wS _, ?_⟩
        rw [whileL]
        unfold dueB
        simp only [List.map_nil] at pk en ⊢
        simp [-ev_comp, pk, en]
      | cons q r =>
        rw [c] at pk ag en
        obtain ⟨s, c3, c2⟩ := firstS_cons c
        have e : ¬ ((lg.length : Int) = (f : Int)) := by omega
        have ll : lg.length < 1000000 := by omega
        have lS : ∀ l2, (S ++ l2)[l]? = some (.dct (encB bk)) := fun l2 => by rw [at_old (has_of hl)]; exact hl
        have es := hs t q.1 (S ++ [.lst ((t.pre []).map (rowP bk)), .lst ((q :: r).map (rowP bk)), .lst []]) l bk (lS _) hb.s hz hd
        have h2 : rowP bk q = .tuple [encI q.1, q.2.e, .str s] := by unfold rowP; rw [c3]; rfl
        simp only [runT, c2]
        simp only [List.map_cons] at pk en es ag
        rw [h2] at pk en es ag
        generalize hrs : r.map (rowP bk) = rs at *
        generalize hps : (t.pre []).map (rowP bk) = ps at *
        have cellq : (S ++ [Cell.lst ps, Cell.lst (PyData.tuple [encI q.1, q.2.e, PyData.str s] :: rs), Cell.lst []])[S.length + 1]? = some (.lst (PyData.tuple [encI q.1, q.2.e, PyData.str s] :: rs)) := by simp
        rcases stepT_first c2 with ⟨u, eu⟩ | eu
        · rw [eu] at es
          rw [eu]
          simp only [stR] at es
          have fit := step_fit eu
          generalize hS1 : S ++ [Cell.lst ps, Cell.lst (PyData.tuple [encI q.1, q.2.e, PyData.str s] :: rs), Cell.lst []] = S1 at *
          have wS1 : S1[w]? = some (.lst (lg.map encR)) := by rw [← hS1]; exact wS _
          have lS1 : S1[l]? = some (.dct (encB bk)) := by rw [← hS1]; exact lS _
          have eR : encR (q.1, s) = .tuple [encI q.1, .str s] := rfl
          obtain ⟨S', a1, a2, a3⟩ := ih u (lg ++ [(q.1, s)]) m (some (.loc (S.length + 1))) v5 (S1.set w (.lst (lg.map encR ++ [encR (q.1, s)]))) (by omega) (by simp; omega) fit.1 fit.2.1 (step_gd hb hg eu) (by rw [List.length_set]; exact ag.le) (by rw [List.getElem?_set_ne (Ne.symm lw)]; exact lS1) (by rw [set_at (has_of wS1)]; simp)
          dsimp only
          refine ⟨S', (ag.set nw).trans a1, a2, ?_⟩
          rw [← a3]
          rw [whileL]
          unfold dueB
          have pk' := pk
          have ne2 : w ≠ S.length + 1 := by have := getE_lt hw; omega
          simp [-ev_comp, pk', hS1, en, wS1, e, es, cellq, ll, eR]
        · rw [eu] at es
          rw [eu]
          simp only [stR] at es
          dsimp only [nrW, nrT, nrL]
          refine ⟨_, ag, wS _, ?_⟩
          rw [whileL]
          unfold dueB
          simp [-ev_comp, pk, en, wS, e, es, cellq, hy2]
def SDueN (c : Cf) : Prop := ∀ (t : Th) (f : Nat) (S : Sto) (l : Nat) (bk : Bk), S[l]? = some (.dct (encB bk)) → BkG bk → t.sz ≤ 600 → t.dp ≤ 40 → t.gd → f ≤ 100000 →
  c [.p t.e, .p (.int (f : Int)), .loc l] S = .ok (.mt [.p (.str (nrW (runT bk f t []))), .p (nrT (runT bk f t [])).e, .loc S.length]) (S ++ [.lst ((nrL (runT bk f t [])).map encR)])
theorem dueN_ok {y n : List Nat} (hr : SRows (cl kro)) (hs : SStep (cl ks) g np ns) (hy : y.contains g = true) : SDueN (runD cl 3 6 (m_l_due_v3 ks kro y n)) := by
  intro t f S l bk hl hb hz hd hg hf5
  have hli := getE_lt hl
  obtain ⟨S', ag, a1, a2⟩ := dueN_loop (y := y) (n := n) (l := l) (w := S.length) (n0 := S.length) hr hs hy hb hf5 (by omega) (by omega) f t [] WL none none (S ++ [.lst []]) (by unfold WL; omega) (by simp) hz hd hg (by simp) (by rw [at_old (has_of hl)]; exact hl) (by simp)
  have gg := gc_m3 (x := .str (nrW (runT bk f t []))) (y := (nrT (runT bk f t [])).e) (((Ag.refl (Nat.le_refl _)).app).trans ag) (Nat.le_refl _) a1
  unfold m_l_due_v3
  unfold dueB at a2
  simp [runD]
  rw [a2]
  simpa using gg
end
end Kp

set_option Elab.async false
set_option linter.all false
set_option maxRecDepth 100000
set_option maxHeartbeats 8000000
set_option autoImplicit false
/-! S44: the word of what was refused; what was told, two of them alike; names that tell the next one; levels put round. -/
namespace Kp
open PySem PySem.Spec PyProof.Rows L2
def SWd (c : Cf) (e : Nat) (w : Str) : Prop := ∀ S, c [.exc e] S = .ok (.p (.str w)) S
def wdW : Nat → Str
  | 0 => "great" | 1 => "place" | 2 => "step" | _ => "dry"
/-- four classes asked of one -/
structure Asks (p q : List Nat) (e : Nat) (b : Bool) : Prop where
  h : p.contains e = b
  n : b = false → q.contains e = true
theorem Asks.v {p q : List Nat} {e : Nat} {b : Bool} (h : Asks p q e b) {S : Sto} : isxV p q (.exc e) S = .ok b S := by
  cases b with
  | true => exact isx_y h.h
  | false => exact isx_n h.h (h.n rfl)
section
variable {cl : Cl} {g np ns d kn kw kd : Nat}
theorem word2_ok {p0 q0 p1 q1 p2 q2 p3 q3 p4 q4 p5 q5 : List Nat} {e k : Nat} (hk : k < 4) (a5 : Asks p5 q5 e (decide (k = 0))) (a4 : Asks p4 q4 e (decide (k = 1))) (a3 : Asks p3 q3 e (decide (k = 2))) (a2 : Asks p2 q2 e (decide (k = 3))) (a1 : Asks p1 q1 e false) (a0 : Asks p0 q0 e true) :
    SWd (runD cl 1 3 (m_l_word_v2 p0 q0 p1 q1 p2 q2 p3 q3 p4 q4 p5 q5)) e (wdW k) := by
  intro S
  have e5 := fun S => a5.v (S := S)
  have e4 := fun S => a4.v (S := S)
  have e3 := fun S => a3.v (S := S)
  have e2 := fun S => a2.v (S := S)
  have e1 := fun S => a1.v (S := S)
  have e0 := fun S => a0.v (S := S)
  have ec := mt_cnt (S := S ++ [.lst [.bool (decide (k = 0)), .bool (decide (k = 1)), .bool (decide (k = 2)), .bool (decide (k = 3))]]) (l := S.length) (b := true) (xs := [.bool (decide (k = 0)), .bool (decide (k = 1)), .bool (decide (k = 2)), .bool (decide (k = 3))]) (bs := [decide (k = 0), decide (k = 1), decide (k = 2), decide (k = 3)]) (by simp) rfl
  have ei := mt_idx (S := S ++ [.lst [.bool (decide (k = 0)), .bool (decide (k = 1)), .bool (decide (k = 2)), .bool (decide (k = 3))], .lst [.str "great", .str "place", .str "step", .str "dry"]]) (l := S.length) (z := .bool true) (j := k) (xs := [.bool (decide (k = 0)), .bool (decide (k = 1)), .bool (decide (k = 2)), .bool (decide (k = 3))]) (by simp) rfl (by
    match k, hk with
    | 0, _ => rfl
    | 1, _ => rfl
    | 2, _ => rfl
    | 3, _ => rfl)
  unfold m_l_word_v2
  match k, hk with
  | 0, _ =>
    simp at ec ei e5 e4 e3 e2
    simp [runD, e5, e4, e3, e2, e1, e0, ec, ei, wdW]
  | 1, _ =>
    simp at ec ei e5 e4 e3 e2
    simp [runD, e5, e4, e3, e2, e1, e0, ec, ei, wdW]
  | 2, _ =>
    simp at ec ei e5 e4 e3 e2
    simp [runD, e5, e4, e3, e2, e1, e0, ec, ei, wdW]
  | 3, _ =>
    simp at ec ei e5 e4 e3 e2
    simp [runD, e5, e4, e3, e2, e1, e0, ec, ei, wdW]
def STold8 (c : Cf) : Prop := ∀ (t : Th) (f : Nat) (S : Sto) (l : Nat) (bk : Bk), S[l]? = some (.dct (encB bk)) → BkS bk → t.sz ≤ 600 → t.dp ≤ 40 → f ≤ 100000 →
  c [.p t.e, .p (.int (f : Int)), .loc l] S = match runT bk f t [] with
    | .thing u lg => .ok (.mt [.p (.str "thing"), .p u.e, .loc S.length]) (S ++ [.lst (lg.map encR)])
    | .dry _ _ => .ok (.mt [.p (.str "dry"), .p t.e, .loc S.length]) (S ++ [.lst []])
    | .great _ _ => .ok (.mt [.p (.str "great"), .p t.e, .loc S.length]) (S ++ [.lst []])
@[simp] theorem is_tm {vs : List PV} {S : Sto} : isiV .tup (.mt vs) S = .ok true S := id rfl
theorem told8_ok {y n : List Nat} (hn : SNorm (cl kn) g d) (hg : SWd (cl kw) g "great") (hd : SWd (cl kw) d "dry") (yg : y.contains g = true) (yd : y.contains d = true) : STold8 (runD cl 3 5 (m_l_told_v8 kn kw y n)) := by
  intro t f S l bk hl hb hz hdp hf5
  have yg : g ∈ y := by simpa using yg
  have yd : d ∈ y := by simpa using yd
  have e := hn t f S l bk hl hb hz hdp hf5
  have eg := hg S
  have ed := hd S
  have gg := fun (x y : P) (c : Cell) => gc_m3 (S := S) (S' := S ++ [c]) (w := S.length) (x := x) (y := y) (c := c) ((Ag.refl (Nat.le_refl _)).app) (Nat.le_refl _) (by simp)
  unfold m_l_told_v8
  cases c : runT bk f t [] with
  | thing u lg =>
    rw [c] at e
    simp only [nrR] at e
    simp [runD, e, gg]
  | dry u lg =>
    rw [c] at e
    simp only [nrR] at e
    simp [runD, e, yd, ed, gg]
  | great u lg =>
    rw [c] at e
    simp only [nrR] at e
    simp [runD, e, yg, eg, gg]
/-- two that were told, one and the same -/
def SSame (c : Cf) : Prop := ∀ (a : Str) (x y : P) (i j : Nat) (xs ys : List P) (S : Sto), S[i]? = some (.lst xs) → S[j]? = some (.lst ys) → (a = "thing" → x = y ∧ xs = ys ∧ SeqAt.shaped x = true ∧ SeqAt.shaped (.list xs) = true) →
  c [.mt [.p (.str a), .p x, .loc i], .mt [.p (.str a), .p y, .loc j]] S = .ok (.p (.bool true)) S
theorem same_ok : SSame (runD cl 2 2 m_l_same) := by
  intro a x y i j xs ys S hi hj h
  unfold m_l_same
  by_cases c : a = "thing"
  · obtain ⟨rfl, rfl, h1, h2⟩ := h c
    subst c
    have e1 := e_pp (S := S) h1
    have e2 := e_same hi hj h2
    simp [runD, e1, e2]
  · simp [runD, c]
/-! names of which each tells the next one -/
def qn (k : Nat) : Str := ("q" : Str) ++ (⟨#[k / 26 + 97]⟩ : Str) ++ (⟨#[k % 26 + 97]⟩ : Str)
theorem so_abc {k : Nat} (h : k < 26) : PyData.strOk (⟨#[k + 97]⟩ : Str) = true := by
  have : ((List.range 26).all fun k => PyData.strOk (⟨#[k + 97]⟩ : Str)) = true := by decide +kernel
  exact List.all_eq_true.mp this k (List.mem_range.mpr h)
theorem so_qn {k : Nat} (h : k < 676) : PyData.strOk (qn k) = true := by
  unfold qn
  rw [sok_app, sok_app, sok_q, so_abc (by omega), so_abc (by omega)]
  rfl
theorem abc_div {k : Nat} (h : k < 676) : ixP abc.cps.toList ((k : Int) / 26) = some (k / 26 + 97) := by
  have e := abc_at (z := (k : Int) / 26) (by omega) (by omega)
  rw [e]
  congr 1
theorem abc_mod {k : Nat} (h : k < 676) : ixP abc.cps.toList ((k : Int) % 26) = some (k % 26 + 97) := by
  have e := abc_at (z := (k : Int) % 26) (by omega) (by omega)
  rw [e]
  congr 1
def chB : Nat → Bk → Bk
  | 0, bk => bk
  | k + 1, bk => putB (chB k bk) (qn k) (.n0 .nat, .nm (qn (k + 1)))
theorem chB_g {bk : Bk} (h : BkG bk) : ∀ k, k < 670 → BkG (chB k bk)
  | 0, _ => h
  | k + 1, hk => (chB_g h k (by omega)).put trivial (by simp) (so_qn (by omega)) trivial (by simp)
theorem chB_len {bk : Bk} : ∀ k, (chB k bk).length ≤ bk.length + k
  | 0 => Nat.le_refl _
  | k + 1 => by
    have := chB_len (bk := bk) k
    have := putB_len (bk := chB k bk) (k := qn k) (v := (.n0 .nat, .nm (qn (k + 1))))
    simp only [chB]
    omega
theorem qn_len (k : Nat) : (qn k).length = 3 := by
  have z : (Str.ofString "q").length = 1 := by decide +kernel
  unfold qn
  rw [app_len, app_len, z]
  rfl
def SChain (c : Cf) : Prop := ∀ (k : Nat) (bk : Bk) (S : Sto) (l : Nat), k < 670 → S[l]? = some (.dct (encB bk)) → bk.length ≤ 1000 → c [.p (.int (k : Int)), .loc l] S = .ok (.p (.str (qn k))) (S.set l (.dct (encB (chB k bk))))
theorem chain_loop {l : Nat} {many : Option PV} : ∀ (m k : Nat) (bk : Bk) (v3 v4 v5 : Option PV) (S : Sto), k + m < 670 → S[l]? = some (.dct (encB (chB k bk))) → bk.length ≤ 1000 →
    ∃ u3 u4 u5, forL (.nm 3) [] (exss cl (.cons (.asg (.nm 4) (.bin .add (.v 3) (.c (.int 1))))
    (.cons (.asg (.nm 5) (.bin .add (.bin .add (.c (.str "q")) (.ix (.v 2) (.bin .fdiv (.v 3) (.c (.int 26))))) (.ix (.v 2) (.bin .mod (.v 3) (.c (.int 26))))))
    (.cons (.setI (.v 1) (.v 5) (.tup (.cons (.tup (.cons (.c (.str "nat")) .nil)) (.cons (.tup (.cons (.c (.str "name")) (.cons (.bin .add (.bin .add (.c (.str "q")) (.ix (.v 2) (.bin .fdiv (.v 4) (.c (.int 26))))) (.ix (.v 2) (.bin .mod (.v 4) (.c (.int 26))))) .nil))) .nil))))
    .nil)))) ((List.range' k m).map fun (x : Nat) => PV.p (.int (0 + (x : Int)))) [many, some (.loc l), some (.p (.str abc)), v3, v4, v5] S = .nx [many, some (.loc l), some (.p (.str abc)), u3, u4, u5] (S.set l (.dct (encB (chB (k + m) bk))))
  | 0, k, bk, v3, v4, v5, S, _, h, _ => ⟨v3, v4, v5, by simp [set_same h]⟩
  | m + 1, k, bk, v3, v4, v5, S, hk, h, hl => by
    have hli := has_of h
    have h2 : (S.set l (.dct (encB (chB (k + 1) bk))))[l]? = some (.dct (encB (chB (k + 1) bk))) := set_at hli
    obtain ⟨u3, u4, u5, e⟩ := chain_loop (many := many) m (k + 1) bk (some (.p (.int (0 + (k : Int))))) (some (.p (.int ((k : Int) + 1)))) (some (.p (.str (qn k)))) _ (by omega) h2 hl
    refine ⟨u3, u4, u5, ?_⟩
    have d1 := abc_div (k := k) (by omega)
    have d2 := abc_mod (k := k) (by omega)
    have d3 := abc_div (k := k + 1) (by omega)
    have d4 := abc_mod (k := k + 1) (by omega)
    have al : abc.length ≤ 1000000 := by decide +kernel
    have zq : (Str.ofString "q").length = 1 := by decide +kernel
    have z1 : ∀ c : Nat, (⟨#[c]⟩ : Str).length = 1 := fun c => rfl
    have bl : (encB (chB k bk)).length < 1000000 := by
      rw [encB_len]
      have := chB_len (bk := bk) k
      omega
    have pu := puK_encB (bk := chB k bk) (k := qn k) (v := (.n0 .nat, .nm (qn (k + 1))))
    have pu' : puK (encB (chB k bk)) (.inr (qn k)) (.tuple [.tuple [.str "nat"], .tuple [.str "name", .str (qn (k + 1))]]) = encB (chB (k + 1) bk) := pu
    have q1 : ("q" : Str) ++ (⟨#[k / 26 + 97]⟩ : Str) ++ (⟨#[k % 26 + 97]⟩ : Str) = qn k := rfl
    have q2 : ("q" : Str) ++ (⟨#[(k + 1) / 26 + 97]⟩ : Str) ++ (⟨#[(k + 1) % 26 + 97]⟩ : Str) = qn (k + 1) := rfl
    have c1 : ((k + 1 : Nat) : Int) = (k : Int) + 1 := by omega
    rw [c1] at d3 d4
    rw [List.range'_succ, List.map_cons, for_cons0]
    rw [show k + (m + 1) = k + 1 + m by omega]
    have ss : (S.set l (.dct (encB (chB (k + 1) bk)))).set l (.dct (encB (chB (k + 1 + m) bk))) = S.set l (.dct (encB (chB (k + 1 + m) bk))) := by simp
    rw [ss] at e
    rw [← e]
    simp [h, d1, d2, d3, d4, al, b_fdiv, z1, zq, bl, q1, q2, pu']
theorem chain_ok : SChain (runD cl 2 6 m_l_chain) := by
  intro k bk S l hk h hl
  have hli := has_of h
  obtain ⟨u3, u4, u5, e⟩ := chain_loop (cl := cl) (many := some (.p (.int (k : Int)))) k 0 bk none none none S (by omega) h hl
  rw [← List.range_eq_range', Nat.zero_add] at e
  have d1 := abc_div (k := k) (by omega)
  have d2 := abc_mod (k := k) (by omega)
  have al : abc.length ≤ 1000000 := by decide +kernel
  have zq : (Str.ofString "q").length = 1 := by decide +kernel
  have z1 : ∀ c : Nat, (⟨#[c]⟩ : Str).length = 1 := fun c => rfl
  have q1 : ("q" : Str) ++ (⟨#[k / 26 + 97]⟩ : Str) ++ (⟨#[k % 26 + 97]⟩ : Str) = qn k := rfl
  have hb : ((k : Nat) : Int) < 4611686018427387904 := by omega
  have abce : (Str.ofString "abcdefghijklmnopqrstuvwxyz") = abc := rfl
  unfold m_l_chain
  simp [runD, hb, abce]
  try simp at e
  rw [e]
  have lt : l < S.length := getE_lt h
  simp [d1, d2, al, b_fdiv, z1, zq, q1]
/-! levels more -/
def SWrap (c : Cf) : Prop := ∀ (ns : List Int) (t : Th) (S : Sto) (i k : Nat), S[i]? = some (tp k) → k < 1000000000 → t.vs → t.so → ∃ u : Th, u.vs ∧ u.so ∧ u.sz ≤ t.sz + 4 ∧ u.dp ≤ t.dp + 1 ∧ c [.p (.list (ns.map .int)), .loc i, .p t.e] S = .ok (.p u.e) (S.set i (tp (k + 1)))
def Th.isK : Th → Bool
  | .n0 .nat => true | .n0 .none => true | .n2 .all _ _ => true | .n2 .some _ _ => true | .n3 .same _ _ _ => true | _ => false
theorem kd_w (t : Th) : inT [.str "nat", .str "none", .str "all", .str "some", .str "same"] (.str t.w) = t.isK := by
  cases t with
  | n0 w => cases w <;> simp [Th.isK]
  | n1 w a => cases w <;> simp [Th.isK]
  | n2 w a b => cases w <;> simp [Th.isK]
  | n3 w a b c => cases w <;> simp [Th.isK]
  | _ => simp [Th.isK]
theorem e_0 (t : Th) : ∃ r, t.e = .tuple (.str t.w :: r) := ⟨t.as, Th.e_eq t⟩
theorem wrapped_ok (hd : SDraw2 (cl kd)) : SWrap (runD cl 3 4 (m_l_wrapped kd)) := by
  intro ns t S i k h hk hv hs
  obtain ⟨r, r0, r1, er⟩ := hd ns S i k 8 h hk (by decide)
  have kw := kd_w t
  have dpt := dp_pos t
  have ixw : ∀ S, ixV (.p t.e) (.p (.int 0)) S = .ok (.p (.str t.w)) S := fun S => by rw [Th.e_eq]; rfl
  cases kc : t.isK with
  | true =>
    rw [kc] at kw
    have m3 : r % 3 = 0 ∨ r % 3 = 1 ∨ r % 3 = 2 := by omega
    rcases m3 with e3 | e3 | e3
    · refine ⟨.n2 .all (.n0 .nat) t, ⟨trivial, hv⟩, ⟨trivial, hs⟩, by simp <;> omega, by simp <;> omega, ?_⟩
      unfold m_l_wrapped
      simp [runD, er, ixw, kw, -inT_cons, -inT_nil, e3]
      try exact rfl
    · refine ⟨.n2 .some t (.n0 .nat), ⟨hv, trivial⟩, ⟨hs, trivial⟩, by simp <;> omega, by simp <;> omega, ?_⟩
      unfold m_l_wrapped
      simp [runD, er, ixw, kw, -inT_cons, -inT_nil, e3]
      try exact rfl
    · refine ⟨.n2 .all t (.n0 .nat), ⟨hv, trivial⟩, ⟨hs, trivial⟩, by simp <;> omega, by simp <;> omega, ?_⟩
      unfold m_l_wrapped
      simp [runD, er, ixw, kw, -inT_cons, -inT_nil, e3]
      try exact rfl
  | false =>
    rw [kc] at kw
    have m8 : r = 0 ∨ r = 1 ∨ r = 2 ∨ r = 3 ∨ r = 4 ∨ r = 5 ∨ r = 6 ∨ r = 7 := by omega
    rcases m8 with rfl | rfl | rfl | rfl | rfl | rfl | rfl | rfl
    · refine ⟨.n1 .next t, hv, hs, by simp, by simp, ?_⟩
      unfold m_l_wrapped
      simp [runD, er, ixw, kw, -inT_cons, -inT_nil]
      try exact rfl
    · refine ⟨.n1 .second t, hv, hs, by simp, by simp, ?_⟩
      unfold m_l_wrapped
      simp [runD, er, ixw, kw, -inT_cons, -inT_nil]
      try exact rfl
    · refine ⟨.n2 .app t (.n0 .zero), ⟨hv, trivial⟩, ⟨hs, trivial⟩, by simp <;> omega, by simp <;> omega, ?_⟩
      unfold m_l_wrapped
      simp [runD, er, ixw, kw, -inT_cons, -inT_nil]
      try exact rfl
    · refine ⟨.n2 .app (.n0 .zero) t, ⟨trivial, hv⟩, ⟨trivial, hs⟩, by simp <;> omega, by simp <;> omega, ?_⟩
      unfold m_l_wrapped
      simp [runD, er, ixw, kw, -inT_cons, -inT_nil]
      try exact rfl
    · refine ⟨.n3 .pair (.n0 .nat) (.n0 .zero) t, ⟨trivial, trivial, hv⟩, ⟨trivial, trivial, hs⟩, by simp <;> omega, by simp <;> omega, ?_⟩
      unfold m_l_wrapped
      simp [runD, er, ixw, kw, -inT_cons, -inT_nil]
      try exact rfl
    · refine ⟨.n2 .fun' (.n0 .nat) t, ⟨trivial, hv⟩, ⟨trivial, hs⟩, by simp <;> omega, by simp <;> omega, ?_⟩
      unfold m_l_wrapped
      simp [runD, er, ixw, kw, -inT_cons, -inT_nil]
      try exact rfl
    · refine ⟨.n2 .like (.n0 .nat) t, ⟨trivial, hv⟩, ⟨trivial, hs⟩, by simp <;> omega, by simp <;> omega, ?_⟩
      unfold m_l_wrapped
      simp [runD, er, ixw, kw, -inT_cons, -inT_nil]
      try exact rfl
    · refine ⟨.rc (.n0 .nat) t (.n0 .zero) (.n0 .zero), ⟨trivial, hv, trivial, trivial⟩, ⟨trivial, hs, trivial, trivial⟩, by simp <;> omega, by simp <;> omega, ?_⟩
      unfold m_l_wrapped
      simp [runD, er, ixw, kw, -inT_cons, -inT_nil]
      try exact rfl
end
end Kp

set_option Elab.async false
set_option linter.all false
set_option maxRecDepth 100000
set_option maxHeartbeats 8000000
set_option autoImplicit false
/-! S45: under levels more; sums. -/
namespace Kp
open PySem PySem.Spec PyProof.Rows L2
theorem nx_nx {cl : Cl} {s : Sm} {r : Sms} {en en' : En} {S S' : Sto} (h : exs cl s en S = .nx en' S') : exss cl (.cons s r) en S = exss cl r en' S' := by
  simp only [exss, h]
section
variable {cl : Cl} {kd kw km kg : Nat}
theorem under_loop {ns : List Int} {i : Nat} {mn : Option PV} (hw : SWrap (cl kw)) : ∀ (l : List Nat) (t : Th) (k : Nat) (v : Option PV) (S : Sto), S[i]? = some (tp k) → k + l.length ≤ 1000000 → t.vs → t.so →
    ∃ (u : Th) (v' : Option PV), u.vs ∧ u.so ∧ u.dp ≤ t.dp + l.length ∧ forL (.nm 4) [] (exss cl (.cons (.asg (.nm 2) (.call kw (.cons (.v 0) (.cons (.v 1) (.cons (.v 2) .nil)))))
    .nil)) (l.map fun (x : Nat) => PV.p (.int (0 + (x : Int)))) [some (.p (.list (ns.map .int))), some (.loc i), some (.p t.e), mn, v] S = .nx [some (.p (.list (ns.map .int))), some (.loc i), some (.p u.e), mn, v'] (S.set i (tp (k + l.length)))
  | [], t, k, v, S, h, _, hv, hs => ⟨t, v, hv, hs, by simp, by simp [set_same h]⟩
  | x :: l, t, k, v, S, h, hk, hv, hs => by
    simp only [List.length_cons] at hk ⊢
    obtain ⟨u, uv, us, _, ud, e⟩ := hw ns t S i k h (by omega) hv hs
    obtain ⟨u', v', a1, a2, a3, a4⟩ := under_loop (ns := ns) (mn := mn) hw l u (k + 1) (some (.p (.int (0 + (x : Int))))) (S.set i (tp (k + 1))) (set_at (has_of h)) (by omega) uv us
    refine ⟨u', v', a1, a2, by omega, ?_⟩
    rw [List.map_cons, for_cons0]
    have ss : (S.set i (tp (k + 1))).set i (tp (k + 1 + l.length)) = S.set i (tp (k + (l.length + 1))) := by
      rw [List.set_set, show k + 1 + l.length = k + (l.length + 1) by omega]
    rw [ss] at a4
    rw [← a4]
    simp [e]
def SUnder (c : Cf) : Prop := ∀ (ns : List Int) (t : Th) (S : Sto) (i k : Nat), S[i]? = some (tp k) → k + 50 ≤ 1000000 → t.vs → t.so → ¬ t.tg → ∃ (u : Th) (k' : Nat), k' ≤ k + 50 ∧ u.vs ∧ u.so ∧ ¬ u.tg ∧ c [.p (.list (ns.map .int)), .loc i, .p t.e] S = .ok (.p u.e) (S.set i (tp k'))
theorem under_ok (hd : SDraw2 (cl kd)) (hw : SWrap (cl kw)) (hm : SMeas (cl km) 50) (hg : SGreat2 (cl kg) 90) : SUnder (runD cl 3 5 (m_l_under kg km kw kd)) := by
  intro ns t S i k h hk hv hs ht
  have hi := has_of h
  obtain ⟨r, r0, r1, er⟩ := hd ns S i k 5 h (by omega) (by decide)
  have h1 : (S.set i (tp (k + 1)))[i]? = some (tp (k + 1)) := set_at hi
  have tdp : t.dp ≤ 40 := by unfold Th.tg at ht; omega
  unfold m_l_under
  by_cases c : 0 < r
  · refine ⟨t, k + 1, by omega, hv, hs, ht, ?_⟩
    simp [runD, er, c]
  · obtain ⟨r2, p0, p1, er2⟩ := hd ns (S.set i (tp (k + 1))) i (k + 1) 40 h1 (by omega) (by decide)
    have h2 : (S.set i (tp (k + 1 + 1)))[i]? = some (tp (k + 1 + 1)) := set_at hi
    rw [List.set_set] at er2
    have em := hm t (S.set i (tp (k + 1 + 1))) (by omega) hv
    obtain ⟨u, v', uv, us, ud, e⟩ := under_loop (cl := cl) (kw := kw) (ns := ns) (mn := some (.p (.int r2))) hw (List.range (r2 - (t.dp : Int) - 0).toNat) t (k + 1 + 1) none (S.set i (tp (k + 1 + 1))) h2 (by rw [List.length_range]; omega) hv hs
    rw [List.length_range] at ud e
    rw [List.set_set] at e
    have eg := hg u (S.set i (tp (k + 1 + 1 + (r2 - (t.dp : Int) - 0).toNat))) (by omega) uv
    have rg := rng_ (S := S.set i (tp (k + 1 + 1))) (a := 0) (b := r2 - (t.dp : Int)) (by omega)
    generalize hK : k + 1 + 1 + (r2 - (t.dp : Int) - 0).toNat = K at *
    generalize hL : List.range (r2 - (t.dp : Int) - 0).toNat = L at *
    by_cases tg : u.tg
    · refine ⟨.n0 .zero, K, by omega, trivial, trivial, by unfold Th.tg; simp, ?_⟩
      rw [tgb_iff.mpr tg] at eg
      simp [runD, er, c, er2, em, -rng_, rg]
      try simp at e
      rw [e]
      simp [eg]
      try exact rfl
    · refine ⟨u, K, by omega, uv, us, tg, ?_⟩
      have tf : u.tgb = false := by
        cases q : u.tgb with
        | false => rfl
        | true => exact absurd (tgb_iff.mp q) tg
      rw [tf] at eg
      simp [runD, er, c, er2, em, -rng_, rg]
      try simp at e
      rw [e]
      simp [eg]
      try exact rfl
theorem nx_loop2 {a b f y w : Option PV} : ∀ (l : List Nat) (t : Th) (v : Option PV) (S : Sto), ∃ v', forL (.nm 3) [] (exss cl (.cons (.asg (.nm 2) (.tup (.cons (.c (.str "next")) (.cons (.v 2) .nil))))
    .nil)) (l.map fun (x : Nat) => PV.p (.int (0 + (x : Int)))) [a, b, some (.p t.e), v, y, w] S = .nx [a, b, some (.p (nextN l.length t).e), v', y, w] S
  | [], t, v, S => ⟨v, by simp [nextN]⟩
  | x :: l, t, v, S => by
    obtain ⟨v', e⟩ := nx_loop2 (f := f) l (.n1 .next t) (some (.p (.int (0 + (x : Int))))) S
    refine ⟨v', ?_⟩
    rw [List.map_cons, for_cons0]
    simp only [List.length_cons, nextN]
    rw [← e]
    simp
    try exact rfl
theorem nx_loop4 {a b f y w : Option PV} : ∀ (l : List Nat) (t : Th) (v : Option PV) (S : Sto), ∃ v', forL (.nm 3) [] (exss cl (.cons (.asg (.nm 4) (.tup (.cons (.c (.str "next")) (.cons (.v 4) .nil))))
    .nil)) (l.map fun (x : Nat) => PV.p (.int (0 + (x : Int)))) [a, b, y, v, some (.p t.e), w] S = .nx [a, b, y, v', some (.p (nextN l.length t).e), w] S
  | [], t, v, S => ⟨v, by simp [nextN]⟩
  | x :: l, t, v, S => by
    obtain ⟨v', e⟩ := nx_loop4 (f := f) l (.n1 .next t) (some (.p (.int (0 + (x : Int))))) S
    refine ⟨v', ?_⟩
    rw [List.map_cons, for_cons0]
    simp only [List.length_cons, nextN]
    rw [← e]
    simp
    try exact rfl
theorem nextN_so : ∀ (n : Nat) (t : Th), t.so → (nextN n t).so
  | 0, _, h => h
  | n + 1, t, h => nextN_so n (.n1 .next t) h
def SSum (c : Cf) : Prop := ∀ (ns : List Int) (S : Sto) (i k : Nat), S[i]? = some (tp k) → k + 2 ≤ 1000000 → ∃ t : Th, t.vs ∧ t.so ∧ t.sz ≤ 30 ∧ t.dp ≤ 20 ∧ c [.p (.list (ns.map .int)), .loc i] S = .ok (.p t.e) (S.set i (tp (k + 2)))
theorem sum_ok (hd : SDraw2 (cl kd)) : SSum (runD cl 2 6 (m_l_sum kd)) := by
  intro ns S i k h hk
  have hi := has_of h
  obtain ⟨r, r0, r1, er⟩ := hd ns S i k 5 h (by omega) (by decide)
  obtain ⟨a, rfl⟩ := Int.eq_ofNat_of_zero_le r0
  have h1 : (S.set i (tp (k + 1)))[i]? = some (tp (k + 1)) := set_at hi
  obtain ⟨r2, p0, p1, er2⟩ := hd ns (S.set i (tp (k + 1))) i (k + 1) 5 h1 (by omega) (by decide)
  obtain ⟨b, rfl⟩ := Int.eq_ofNat_of_zero_le p0
  rw [List.set_set] at er2
  obtain ⟨v1, e1⟩ := nx_loop2 (cl := cl) (f := none) (a := some (.p (.list (ns.map .int)))) (b := some (.loc i)) (y := none) (w := none) (List.range a) (.n0 .zero) none (S.set i (tp (k + 1)))
  obtain ⟨v2, e2⟩ := nx_loop4 (cl := cl) (f := none) (a := some (.p (.list (ns.map .int)))) (b := some (.loc i)) (y := some (.p (nextN a (.n0 .zero)).e)) (w := none) (List.range b) (.n0 .zero) v1 (S.set i (tp (k + 1 + 1)))
  rw [List.length_range] at e1 e2
  have ha : ((a : Nat) : Int) < 4611686018427387904 := by omega
  have hb : ((b : Nat) : Int) < 4611686018427387904 := by omega
  have za := nextN_sz a (.n0 .zero)
  have zb := nextN_sz b (.n0 .zero)
  have da := nextN_dp a (.n0 .zero)
  have db := nextN_dp b (.n0 .zero)
  simp only [Th.sz, Th.dp] at za zb da db
  refine ⟨.rc (.n0 .nat) (nextN b (.n0 .zero)) (.n2 .fun' (.n0 .nat) (.n2 .fun' (.n0 .nat) (.n1 .next (.var 0)))) (nextN a (.n0 .zero)), ⟨trivial, nextN_vs _ _ trivial, by simp, nextN_vs _ _ trivial⟩, ⟨trivial, nextN_so _ _ trivial, by simp, nextN_so _ _ trivial⟩, by simp only [Th.sz]; omega, by simp only [Th.dp]; omega, ?_⟩
  have z0 : (Th.n0 U0.zero).e = .tuple [.str "zero"] := rfl
  rw [z0] at e1 e2
  unfold m_l_sum
  simp at e1 e2
  simp [runD, er, er2, ha, hb, e1, e2]
  try exact rfl
end
end Kp

set_option Elab.async false
set_option linter.all false
set_option maxRecDepth 100000
set_option maxHeartbeats 8000000
set_option autoImplicit false
/-! S46: the program's tables, up to one step. -/
namespace Kp
open PySem PySem.Spec PyProof.Rows L2
structure ProgT (T : Nat → Option FD) (g np ns a0 a1 a2 a3 a4 a5 a6 a7 a8 a9 a10 a11 a12 a13 a14 a15 a16 a17 a18 a19 : Nat) : Prop where
  k0 : ∀ n, callE T (n + 1) a0 = runD (callE T n) 1 1 m_kids_of
  k1 : ∀ n, callE T (n + 1) a1 = runD (callE T n) 1 1 (m_binds_of a0)
  k2 : ∀ n, callE T (n + 1) a2 = runD (callE T n) 2 2 m_made_plain
  k3 : ∀ n, callE T (n + 1) a3 = runD (callE T n) 1 3 (m_size_of a0 a3)
  k4 : ∀ n, callE T (n + 1) a4 = runD (callE T n) 1 2 (m_depth_of a0 a4)
  k5 : ∀ n, callE T (n + 1) a5 = runD (callE T n) 1 2 (m_greatest_of a0 a5)
  k6 : ∀ n, callE T (n + 1) a6 = runD (callE T n) 1 1 (m_bounded a3 a4 a5 g)
  k7 : ∀ n, callE T (n + 1) a7 = runD (callE T n) 2 2 (m_with_kids a6 a2)
  k8 : ∀ n, callE T (n + 1) a8 = runD (callE T n) 2 3 (m_kid_at a0 np)
  k9 : ∀ n, callE T (n + 1) a9 = runD (callE T n) 2 3 (m_at_place a8)
  k10 : ∀ n, callE T (n + 1) a10 = runD (callE T n) 3 4 (m_changed_at a2 a10 a8 a0)
  k11 : ∀ n, callE T (n + 1) a11 = runD (callE T n) 3 3 (m_with_at a6 a10 a9)
  k12 : ∀ n, callE T (n + 1) a12 = runD (callE T n) 3 5 (m_noted a0 a1 a12)
  k13 : ∀ n, callE T (n + 1) a13 = runD (callE T n) 3 6 (m_moved a2 a0 a1 a13)
  k14 : ∀ n, callE T (n + 1) a14 = runD (callE T n) 4 7 (m_placed a2 a0 a1 a14 a13)
  k15 : ∀ n, callE T (n + 1) a15 = runD (callE T n) 3 4 (m_put_in a6 a14 a3 a12 g)
  k16 : ∀ n, callE T (n + 1) a16 = runD (callE T n) 2 3 m_rule_of
  k17 : ∀ n, callE T (n + 1) a17 = runD (callE T n) 1 4 (m_one_more a7)
  k18 : ∀ n, callE T (n + 1) a18 = runD (callE T n) 3 3 (m_turned a17 a15)
  k19 : ∀ n, callE T (n + 1) a19 = runD (callE T n) 3 5 (m_stepped a11 a18 a16 a9 ns)
section
variable {T : Nat → Option FD} {g np ns a0 a1 a2 a3 a4 a5 a6 a7 a8 a9 a10 a11 a12 a13 a14 a15 a16 a17 a18 a19 : Nat}
theorem ProgT.eK (t : ProgT T g np ns a0 a1 a2 a3 a4 a5 a6 a7 a8 a9 a10 a11 a12 a13 a14 a15 a16 a17 a18 a19) : ∀ n, 1 ≤ n → SKids (callE T n a0) := up (a := 0) fun n _ => by rw [t.k0]; exact kids_ok
theorem ProgT.eB (t : ProgT T g np ns a0 a1 a2 a3 a4 a5 a6 a7 a8 a9 a10 a11 a12 a13 a14 a15 a16 a17 a18 a19) : ∀ n, 2 ≤ n → SBinds (callE T n a1) := up (a := 1) fun n h => by rw [t.k1]; exact binds_ok (t.eK n h)
theorem ProgT.eP (t : ProgT T g np ns a0 a1 a2 a3 a4 a5 a6 a7 a8 a9 a10 a11 a12 a13 a14 a15 a16 a17 a18 a19) : ∀ n, 1 ≤ n → SPlain (callE T n a2) := up (a := 0) fun n _ => by rw [t.k2]; exact plain_ok
theorem ProgT.eSz (t : ProgT T g np ns a0 a1 a2 a3 a4 a5 a6 a7 a8 a9 a10 a11 a12 a13 a14 a15 a16 a17 a18 a19) : ∀ d n, d + 1 ≤ n → SSize (callE T n a3) d
  | 0, n, _ => fun t _ h => absurd h (by have := dp_pos t; omega)
  | d + 1, n, h => by
    obtain ⟨m, rfl⟩ : ∃ m, n = m + 1 := ⟨n - 1, by omega⟩
    rw [t.k3]; exact size_ok (t.eK m (by omega)) (t.eSz d m (by omega))
theorem ProgT.eDp (t : ProgT T g np ns a0 a1 a2 a3 a4 a5 a6 a7 a8 a9 a10 a11 a12 a13 a14 a15 a16 a17 a18 a19) : ∀ d n, d + 1 ≤ n → SDepth (callE T n a4) d
  | 0, n, _ => fun t _ h => absurd h (by have := dp_pos t; omega)
  | d + 1, n, h => by
    obtain ⟨m, rfl⟩ : ∃ m, n = m + 1 := ⟨n - 1, by omega⟩
    rw [t.k4]; exact depth_ok (t.eK m (by omega)) (t.eDp d m (by omega))
theorem ProgT.eGt (t : ProgT T g np ns a0 a1 a2 a3 a4 a5 a6 a7 a8 a9 a10 a11 a12 a13 a14 a15 a16 a17 a18 a19) : ∀ d n, d + 1 ≤ n → SGreat (callE T n a5) d
  | 0, n, _ => fun t _ h => absurd h (by have := dp_pos t; omega)
  | d + 1, n, h => by
    obtain ⟨m, rfl⟩ : ∃ m, n = m + 1 := ⟨n - 1, by omega⟩
    rw [t.k5]; exact great_ok (t.eK m (by omega)) (t.eGt d m (by omega))
theorem ProgT.eBd (t : ProgT T g np ns a0 a1 a2 a3 a4 a5 a6 a7 a8 a9 a10 a11 a12 a13 a14 a15 a16 a17 a18 a19) (d : Nat) : ∀ n, d + 2 ≤ n → SBound (callE T n a6) g d := up (a := d + 1) fun n h => by
  rw [t.k6]; exact bound_ok (t.eSz d n h) (t.eDp d n h) (t.eGt d n h)
theorem ProgT.eN (t : ProgT T g np ns a0 a1 a2 a3 a4 a5 a6 a7 a8 a9 a10 a11 a12 a13 a14 a15 a16 a17 a18 a19) : ∀ d n, d + 2 ≤ n → SNoted (callE T n a12) d
  | 0, n, _ => fun t _ _ _ _ h => absurd h (by have := dp_pos t; omega)
  | d + 1, n, h => by
    obtain ⟨m, rfl⟩ : ∃ m, n = m + 1 := ⟨n - 1, by omega⟩
    rw [t.k12]; exact noted_ok (t.eB m (by omega)) (t.eK m (by omega)) (t.eN d m (by omega))
theorem ProgT.eM (t : ProgT T g np ns a0 a1 a2 a3 a4 a5 a6 a7 a8 a9 a10 a11 a12 a13 a14 a15 a16 a17 a18 a19) : ∀ d n, d + 2 ≤ n → SMoved (callE T n a13) d
  | 0, n, _ => fun t _ _ _ h => absurd h (by have := dp_pos t; omega)
  | d + 1, n, h => by
    obtain ⟨m, rfl⟩ : ∃ m, n = m + 1 := ⟨n - 1, by omega⟩
    rw [t.k13]; exact moved_ok (t.eP m (by omega)) (t.eB m (by omega)) (t.eK m (by omega)) (t.eM d m (by omega))
theorem ProgT.ePl (t : ProgT T g np ns a0 a1 a2 a3 a4 a5 a6 a7 a8 a9 a10 a11 a12 a13 a14 a15 a16 a17 a18 a19) (d2 : Nat) (o : Th) (ho : o.dp ≤ d2) : ∀ d n, d2 + d + 3 ≤ n → SPlaced (callE T n a14) d o
  | 0, n, _ => fun t _ _ _ h => absurd h (by have := dp_pos t; omega)
  | d + 1, n, h => by
    obtain ⟨m, rfl⟩ : ∃ m, n = m + 1 := ⟨n - 1, by omega⟩
    rw [t.k14]; exact placed_ok (t.eP m (by omega)) (t.eB m (by omega)) (t.eK m (by omega)) (t.eM d2 m (by omega)) ho (t.ePl d2 o ho d m (by omega))
theorem ProgT.ePu (t : ProgT T g np ns a0 a1 a2 a3 a4 a5 a6 a7 a8 a9 a10 a11 a12 a13 a14 a15 a16 a17 a18 a19) : ∀ n, 100 ≤ n → SPut (callE T n a15) g 40 := up (a := 99) fun n h => by
  rw [t.k15]; exact put_ok (t.eBd 80 n (by omega)) (fun o ho => t.ePl 40 o ho 40 n (by omega)) (t.eSz 40 n (by omega)) (t.eN 40 n (by omega))
theorem ProgT.eKA (t : ProgT T g np ns a0 a1 a2 a3 a4 a5 a6 a7 a8 a9 a10 a11 a12 a13 a14 a15 a16 a17 a18 a19) : ∀ n, 2 ≤ n → SKidAt (callE T n a8) np := up (a := 1) fun n h => by rw [t.k8]; exact kidat_ok (t.eK n h)
theorem ProgT.eAt (t : ProgT T g np ns a0 a1 a2 a3 a4 a5 a6 a7 a8 a9 a10 a11 a12 a13 a14 a15 a16 a17 a18 a19) : ∀ n, 3 ≤ n → SAt (callE T n a9) np := up (a := 2) fun n h => by rw [t.k9]; exact at_ok (t.eKA n h)
theorem ProgT.eCh (t : ProgT T g np ns a0 a1 a2 a3 a4 a5 a6 a7 a8 a9 a10 a11 a12 a13 a14 a15 a16 a17 a18 a19) : ∀ d n, d + 3 ≤ n → SChg (callE T n a10) d
  | 0, n, _ => fun t p u x S h => absurd h (Nat.not_lt_zero _)
  | d + 1, n, h => by
    obtain ⟨m, rfl⟩ : ∃ m, n = m + 1 := ⟨n - 1, by omega⟩
    rw [t.k10]; exact chg_ok (t.eP m (by omega)) (t.eKA m (by omega)) (t.eK m (by omega)) (t.eCh d m (by omega))
theorem ProgT.eW (t : ProgT T g np ns a0 a1 a2 a3 a4 a5 a6 a7 a8 a9 a10 a11 a12 a13 a14 a15 a16 a17 a18 a19) : ∀ n, 84 ≤ n → SWith (callE T n a11) g np 80 := up (a := 83) fun n h => by
  rw [t.k11]; exact with_ok (t.eBd 80 n (by omega)) (t.eCh 80 n (by omega)) (t.eAt n (by omega))
theorem ProgT.eR (t : ProgT T g np ns a0 a1 a2 a3 a4 a5 a6 a7 a8 a9 a10 a11 a12 a13 a14 a15 a16 a17 a18 a19) : ∀ n, 1 ≤ n → SRule (callE T n a16) := up (a := 0) fun n _ => by rw [t.k16]; exact rule_of_ok
theorem ProgT.eO (t : ProgT T g np ns a0 a1 a2 a3 a4 a5 a6 a7 a8 a9 a10 a11 a12 a13 a14 a15 a16 a17 a18 a19) : ∀ n, 60 ≤ n → SOne (callE T n a17) g 40 := up (a := 59) fun n h => by
  obtain ⟨m, rfl⟩ : ∃ m, n = m + 1 := ⟨n - 1, by omega⟩
  rw [t.k17]
  exact one_ok (cl := callE T m) (kb := a6) (kp := a2) (t.eBd 43 m (by omega)) (t.eP m (by omega)) (t.k7 m)
theorem ProgT.eT (t : ProgT T g np ns a0 a1 a2 a3 a4 a5 a6 a7 a8 a9 a10 a11 a12 a13 a14 a15 a16 a17 a18 a19) : ∀ n, 101 ≤ n → STurn (callE T n a18) g := up (a := 100) fun n h => by
  rw [t.k18]; exact turned_ok (t.eO n (by omega)) (t.ePu n (by omega))
theorem ProgT.eS (t : ProgT T g np ns a0 a1 a2 a3 a4 a5 a6 a7 a8 a9 a10 a11 a12 a13 a14 a15 a16 a17 a18 a19) : ∀ n, 102 ≤ n → SStep (callE T n a19) g np ns := up (a := 101) fun n h => by
  rw [t.k19]; exact stepped_ok (t.eW n (by omega)) (t.eT n h) (t.eR n (by omega)) (t.eAt n (by omega))
theorem ProgT.eF (t : ProgT T g np ns a0 a1 a2 a3 a4 a5 a6 a7 a8 a9 a10 a11 a12 a13 a14 a15 a16 a17 a18 a19) {kf : Nat} (e : ∀ n, callE T (n + 1) kf = runD (callE T n) 2 8 (m_first_step a0 a16)) : ∀ n, 2 ≤ n → SFirst (callE T n kf) := up (a := 1) fun n h => by
  rw [e]; exact first_ok (t.eR n h) (t.eK n h)
theorem ProgT.eNo (t : ProgT T g np ns a0 a1 a2 a3 a4 a5 a6 a7 a8 a9 a10 a11 a12 a13 a14 a15 a16 a17 a18 a19) {kf kn d : Nat} (e : ∀ n, callE T (n + 1) kf = runD (callE T n) 2 8 (m_first_step a0 a16)) (e2 : ∀ n, callE T (n + 1) kn = runD (callE T n) 3 5 (m_normal kf a19 d)) : ∀ n, 103 ≤ n → SNorm (callE T n kn) g d := up (a := 102) fun n h => by
  rw [e2]; exact normal_ok (t.eF e n (by omega)) (t.eS n h)
end
theorem eChain {T : Nat → Option FD} {k : Nat} (e : ∀ n, callE T (n + 1) k = runD (callE T n) 2 6 m_l_chain) : ∀ n, 1 ≤ n → SChain (callE T n k) := up (a := 0) fun n _ => by rw [e]; exact chain_ok
end Kp

set_option Elab.async false
set_option linter.all false
set_option maxRecDepth 100000
set_option maxHeartbeats 0
set_option autoImplicit false
/-! the head of the law k23_normal: the tables. -/
namespace Kp.k23
open PySem PySem.Spec PyProof.Rows L2
def st (i : Nat) : Stmt := PySem.Challenge.pw_keeper_k23_normal.main.body.getD i (.Pass ⟨0, 0, 0, 0⟩)
def d0 : DD := ⟨st 20, "kids_of", ["thing"], ["thing"], m_kids_of⟩
def d1 : DD := ⟨st 21, "binds_of", ["thing"], ["thing"], m_binds_of 0⟩
def d2 : DD := ⟨st 22, "made_plain", ["thing", "kids"], ["thing", "kids"], m_made_plain⟩
def d3 : DD := ⟨st 23, "size_of", ["thing", "total", "kid"], ["thing"], m_size_of 0 3⟩
def d4 : DD := ⟨st 24, "depth_of", ["thing", "kid"], ["thing"], m_depth_of 0 4⟩
def d5 : DD := ⟨st 25, "greatest_of", ["thing", "kid"], ["thing"], m_greatest_of 0 5⟩
def d6 : DD := ⟨st 26, "bounded", ["thing"], ["thing"], m_bounded 3 4 5 1⟩
def d7 : DD := ⟨st 27, "with_kids", ["thing", "kids"], ["thing", "kids"], m_with_kids 6 2⟩
def d8 : DD := ⟨st 29, "kid_at", ["thing", "number", "kids"], ["thing", "number"], m_kid_at 0 2⟩
def d9 : DD := ⟨st 30, "at_place", ["thing", "place", "number"], ["thing", "place"], m_at_place 8⟩
def d10 : DD := ⟨st 31, "changed_at", ["thing", "place", "new", "kids"], ["thing", "place", "new"], m_changed_at 2 10 8 0⟩
def d11 : DD := ⟨st 32, "with_at", ["thing", "place", "new"], ["thing", "place", "new"], m_with_at 6 10 9⟩
def d12 : DD := ⟨st 34, "noted", ["thing", "over", "found", "kid", "bind"], ["thing", "over", "found"], m_noted 0 1 12⟩
def d13 : DD := ⟨st 35, "moved", ["thing", "by", "low", "kids", "kid", "bind"], ["thing", "by", "low"], m_moved 2 0 1 13⟩
def d14 : DD := ⟨st 36, "placed", ["thing", "other", "at", "over", "kids", "kid", "bind"], ["thing", "other", "at", "over"], m_placed 2 0 1 14 13⟩
def d15 : DD := ⟨st 37, "put_in", ["thing", "other", "at", "found"], ["thing", "other", "at"], m_put_in 6 14 3 12 1⟩
def d16 : DD := ⟨st 39, "rule_of", ["thing", "book", "word"], ["thing", "book"], m_rule_of⟩
def d17 : DD := ⟨st 40, "one_more", ["thing", "lesser", "below", "head"], ["thing"], m_one_more 7⟩
def d18 : DD := ⟨st 41, "turned", ["thing", "rule", "book"], ["thing", "rule", "book"], m_turned 17 15⟩
def d19 : DD := ⟨st 42, "stepped", ["thing", "place", "book", "here", "rule"], ["thing", "place", "book"], m_stepped 11 18 16 9 3⟩
def d20 : DD := ⟨st 44, "first_step", ["thing", "book", "waiting", "place", "here", "rule", "kids", "number"], ["thing", "book"], m_first_step 0 16⟩
def d21 : DD := ⟨st 45, "normal", ["thing", "fuel", "book", "log", "row"], ["thing", "fuel", "book"], m_normal 20 19 4⟩
def d22 : DD := ⟨st 47, "_law_draw", ["_law_script", "_law_tape", "_law_many", "_law_seed", "_law_cell"], ["_law_script", "_law_tape", "_law_many"], m_l_draw⟩
def d23 : DD := ⟨st 48, "_law_named", ["_law_word_here"], ["_law_word_here"], m_l_named_v2⟩
def d24 : DD := ⟨st 49, "_law_pool", ["_law_script", "_law_tape", "_law_letters", "_law_cell", "_law_size", "_law_word_here", "_law_at", "_law_other", "_law_words", "_law_one", "_law_k"], ["_law_script", "_law_tape"], m_l_pool 23 22⟩
def d25 : DD := ⟨st 50, "_law_leaf", ["_law_script", "_law_tape", "_law_near", "_law_pool_here", "_law_way"], ["_law_script", "_law_tape", "_law_near", "_law_pool_here"], m_l_leaf 22⟩
def d26 : DD := ⟨st 51, "_law_kind", ["_law_script", "_law_tape", "_law_deep", "_law_near", "_law_pool_here", "_law_way", "_law_first", "_law_kind_here"], ["_law_script", "_law_tape", "_law_deep", "_law_near", "_law_pool_here"], m_l_kind 33 26 22⟩
def d27 : DD := ⟨st 52, "_law_fun", ["_law_script", "_law_tape", "_law_deep", "_law_near", "_law_pool_here", "_law_kind_here"], ["_law_script", "_law_tape", "_law_deep", "_law_near", "_law_pool_here"], m_l_fun 33 26⟩
def d28 : DD := ⟨st 53, "_law_pair", ["_law_script", "_law_tape", "_law_deep", "_law_near", "_law_pool_here", "_law_kind_here", "_law_first"], ["_law_script", "_law_tape", "_law_deep", "_law_near", "_law_pool_here"], m_l_pair 33 26⟩
def d29 : DD := ⟨st 54, "_law_like", ["_law_script", "_law_tape", "_law_deep", "_law_near", "_law_pool_here", "_law_kind_here"], ["_law_script", "_law_tape", "_law_deep", "_law_near", "_law_pool_here"], m_l_like 33 26⟩
def d30 : DD := ⟨st 55, "_law_number", ["_law_script", "_law_tape", "_law_deep", "_law_near", "_law_pool_here"], ["_law_script", "_law_tape", "_law_deep", "_law_near", "_law_pool_here"], m_l_number 33 22⟩
def d31 : DD := ⟨st 56, "_law_parted", ["_law_script", "_law_tape", "_law_deep", "_law_near", "_law_pool_here", "_law_way", "_law_kind_here", "_law_first", "_law_second", "_law_word_here"], ["_law_script", "_law_tape", "_law_deep", "_law_near", "_law_pool_here", "_law_way"], m_l_parted 30 33 29 26 28 22 27⟩
def d32 : DD := ⟨st 57, "_law_still", ["_law_script", "_law_tape", "_law_deep", "_law_near", "_law_pool_here", "_law_way", "_law_one", "_law_two", "_law_three"], ["_law_script", "_law_tape", "_law_deep", "_law_near", "_law_pool_here", "_law_way"], m_l_still 26 33 22 29 28 27⟩
def d33 : DD := ⟨st 58, "_law_term", ["_law_script", "_law_tape", "_law_deep", "_law_near", "_law_pool_here", "_law_way"], ["_law_script", "_law_tape", "_law_deep", "_law_near", "_law_pool_here"], m_l_term 32 31 25 22⟩
def d34 : DD := ⟨st 59, "_law_kids", ["_law_thing_here"], ["_law_thing_here"], m_l_kids_v2⟩
def d35 : DD := ⟨st 60, "_law_measured", ["_law_thing_here", "_law_knots", "_law_deep", "_law_most", "_law_kid", "_law_told_here"], ["_law_thing_here"], m_l_measured 34 35⟩
def d36 : DD := ⟨st 61, "_law_great", ["_law_thing_here", "_law_told_here"], ["_law_thing_here"], m_l_great_v2 35⟩
def d37 : DD := ⟨st 62, "_law_thing", ["_law_script", "_law_tape", "_law_deep", "_law_near", "_law_pool_here", "_law_made"], ["_law_script", "_law_tape", "_law_deep", "_law_near", "_law_pool_here"], m_l_thing 36 22 26 33⟩
def d38 : DD := ⟨st 63, "_law_book", ["_law_script", "_law_tape", "_law_pool_here", "_law_book_here", "_law_k", "_law_kind_here"], ["_law_script", "_law_tape", "_law_pool_here"], m_l_book 22 33 26⟩
def d39 : DD := ⟨st 64, "_law_rule", ["_law_thing_here", "_law_book_here", "_law_word_here", "_law_heads"], ["_law_thing_here", "_law_book_here"], m_l_rule⟩
def d40 : DD := ⟨st 65, "_law_rows", ["_law_thing_here", "_law_book_here", "_law_found", "_law_waiting", "_law_place", "_law_here", "_law_kids_here", "_law_step", "_law_number_here"], ["_law_thing_here", "_law_book_here"], m_l_rows 34 39⟩
def d41 : DD := ⟨st 66, "_law_word", ["_law_e", "_law_found", "_law_later"], ["_law_e"], m_l_word_v2 [0, 1, 2, 3, 4, 5, 6, 7, 8, 9, 10, 11, 12, 13, 14] [] [5, 6, 7, 8, 9, 10, 11, 12, 13, 14] [0, 1, 2, 3, 4] [4] [0, 1, 2, 3, 5, 6, 7, 8, 9, 10, 11, 12, 13, 14] [3] [0, 1, 2, 4, 5, 6, 7, 8, 9, 10, 11, 12, 13, 14] [2] [0, 1, 3, 4, 5, 6, 7, 8, 9, 10, 11, 12, 13, 14] [1] [0, 2, 3, 4, 5, 6, 7, 8, 9, 10, 11, 12, 13, 14]⟩
def d42 : DD := ⟨st 67, "_law_chain", ["_law_many", "_law_book_here", "_law_letters", "_law_k", "_law_after", "_law_word_here"], ["_law_many", "_law_book_here"], m_l_chain⟩
def d43 : DD := ⟨st 68, "_law_wrapped", ["_law_script", "_law_tape", "_law_thing_here", "_law_way"], ["_law_script", "_law_tape", "_law_thing_here"], m_l_wrapped 22⟩
def d44 : DD := ⟨st 69, "_law_under", ["_law_script", "_law_tape", "_law_thing_here", "_law_many", "_law_k"], ["_law_script", "_law_tape", "_law_thing_here"], m_l_under 36 35 43 22⟩
def d45 : DD := ⟨st 70, "_law_sum", ["_law_script", "_law_tape", "_law_one", "_law_k", "_law_two", "_law_more"], ["_law_script", "_law_tape"], m_l_sum 22⟩
def d46 : DD := ⟨st 71, "_law_due", ["_law_thing_here", "_law_fuel", "_law_book_here", "_law_log", "_law_rows_here", "_law_row"], ["_law_thing_here", "_law_fuel", "_law_book_here"], m_l_due_v3 19 40 [1] [0, 2, 3, 4, 5, 6, 7, 8, 9, 10, 11, 12, 13, 14]⟩
def d47 : DD := ⟨st 72, "_law_told", ["_law_thing_here", "_law_fuel", "_law_book_here", "_law_found", "_law_e"], ["_law_thing_here", "_law_fuel", "_law_book_here"], m_l_told_v8 21 41 [0, 1, 2, 3, 4, 5, 6, 7, 8, 9, 10, 11, 12, 13, 14] []⟩
def d48 : DD := ⟨st 73, "_law_same", ["_law_found", "_law_due_here"], ["_law_found", "_law_due_here"], m_l_same⟩
def d49 : DD := ⟨st 74, "law", ["_law_script", "_law_tape", "_law_pool_here", "_law_book_here", "_law_thing_here", "_law_fuel", "_law_due_here", "_law_handed", "_law_found", "_law_second", "_law_kept", "_law_many"], ["_law_script"], m_law_v7 48 47 22 46 42 45 44 35 37 38 24⟩
def dd : List DD := [d0, d1, d2, d3, d4, d5, d6, d7, d8, d9, d10, d11, d12, d13, d14, d15, d16, d17, d18, d19, d20, d21, d22, d23, d24, d25, d26, d27, d28, d29, d30, d31, d32, d33, d34, d35, d36, d37, d38, d39, d40, d41, d42, d43, d44, d45, d46, d47, d48, d49]
def fre : List Str := ["ValueError", "dict", "int", "isinstance", "len", "list", "max", "min", "range", "reversed", "tuple", "zip"]
def cst : List (Str × Cst) := [("MOST_KNOTS", .int 600), ("DEEPEST", .int 40), ("GREATEST", .int 99)]
def cls : List Str := ["KeeperError", "Great", "NoPlace", "NoStep", "Dry", "NoVariable", "NoName", "NotAll", "NotSome", "NotSame", "Unlike", "NoText", "NoWord", "TwiceTold", "NotClosed"]
def exm : List (Nat × Nat × Bool) := [(0, 1, false), (1, 1, true), (2, 1, false), (3, 1, false), (4, 1, false), (5, 1, false), (6, 1, false), (7, 1, false), (8, 1, false), (9, 1, false), (10, 1, false), (11, 1, false), (12, 1, false), (13, 1, false), (14, 1, false), (0, 0, true), (1, 0, true), (2, 0, true), (3, 0, true), (4, 0, true), (5, 0, true), (6, 0, true), (7, 0, true), (8, 0, true), (9, 0, true), (10, 0, true), (11, 0, true), (12, 0, true), (13, 0, true), (14, 0, true)]
def ht : Hot := ⟨[41], [(("ValueError" : Str), (0 : Nat), true), (("ValueError" : Str), (1 : Nat), true), (("ValueError" : Str), (2 : Nat), true), (("ValueError" : Str), (3 : Nat), true), (("ValueError" : Str), (4 : Nat), true), (("ValueError" : Str), (5 : Nat), true), (("ValueError" : Str), (6 : Nat), true), (("ValueError" : Str), (7 : Nat), true), (("ValueError" : Str), (8 : Nat), true), (("ValueError" : Str), (9 : Nat), true), (("ValueError" : Str), (10 : Nat), true), (("ValueError" : Str), (11 : Nat), true), (("ValueError" : Str), (12 : Nat), true), (("ValueError" : Str), (13 : Nat), true), (("ValueError" : Str), (14 : Nat), true), (("NoVariable" : Str), (0 : Nat), false), (("NoVariable" : Str), (1 : Nat), false), (("NoVariable" : Str), (2 : Nat), false), (("NoVariable" : Str), (3 : Nat), false), (("NoVariable" : Str), (4 : Nat), false), (("NoVariable" : Str), (5 : Nat), true), (("NoVariable" : Str), (6 : Nat), false), (("NoVariable" : Str), (7 : Nat), false), (("NoVariable" : Str), (8 : Nat), false), (("NoVariable" : Str), (9 : Nat), false), (("NoVariable" : Str), (10 : Nat), false), (("NoVariable" : Str), (11 : Nat), false), (("NoVariable" : Str), (12 : Nat), false), (("NoVariable" : Str), (13 : Nat), false), (("NoVariable" : Str), (14 : Nat), false), (("NoName" : Str), (0 : Nat), false), (("NoName" : Str), (1 : Nat), false), (("NoName" : Str), (2 : Nat), false), (("NoName" : Str), (3 : Nat), false), (("NoName" : Str), (4 : Nat), false), (("NoName" : Str), (5 : Nat), false), (("NoName" : Str), (6 : Nat), true), (("NoName" : Str), (7 : Nat), false), (("NoName" : Str), (8 : Nat), false), (("NoName" : Str), (9 : Nat), false), (("NoName" : Str), (10 : Nat), false), (("NoName" : Str), (11 : Nat), false), (("NoName" : Str), (12 : Nat), false), (("NoName" : Str), (13 : Nat), false), (("NoName" : Str), (14 : Nat), false), (("NotAll" : Str), (0 : Nat), false), (("NotAll" : Str), (1 : Nat), false), (("NotAll" : Str), (2 : Nat), false), (("NotAll" : Str), (3 : Nat), false), (("NotAll" : Str), (4 : Nat), false), (("NotAll" : Str), (5 : Nat), false), (("NotAll" : Str), (6 : Nat), false), (("NotAll" : Str), (7 : Nat), true), (("NotAll" : Str), (8 : Nat), false), (("NotAll" : Str), (9 : Nat), false), (("NotAll" : Str), (10 : Nat), false), (("NotAll" : Str), (11 : Nat), false), (("NotAll" : Str), (12 : Nat), false), (("NotAll" : Str), (13 : Nat), false), (("NotAll" : Str), (14 : Nat), false), (("NotSome" : Str), (0 : Nat), false), (("NotSome" : Str), (1 : Nat), false), (("NotSome" : Str), (2 : Nat), false), (("NotSome" : Str), (3 : Nat), false), (("NotSome" : Str), (4 : Nat), false), (("NotSome" : Str), (5 : Nat), false), (("NotSome" : Str), (6 : Nat), false), (("NotSome" : Str), (7 : Nat), false), (("NotSome" : Str), (8 : Nat), true), (("NotSome" : Str), (9 : Nat), false), (("NotSome" : Str), (10 : Nat), false), (("NotSome" : Str), (11 : Nat), false), (("NotSome" : Str), (12 : Nat), false), (("NotSome" : Str), (13 : Nat), false), (("NotSome" : Str), (14 : Nat), false), (("NotSame" : Str), (0 : Nat), false), (("NotSame" : Str), (1 : Nat), false), (("NotSame" : Str), (2 : Nat), false), (("NotSame" : Str), (3 : Nat), false), (("NotSame" : Str), (4 : Nat), false), (("NotSame" : Str), (5 : Nat), false), (("NotSame" : Str), (6 : Nat), false), (("NotSame" : Str), (7 : Nat), false), (("NotSame" : Str), (8 : Nat), false), (("NotSame" : Str), (9 : Nat), true), (("NotSame" : Str), (10 : Nat), false), (("NotSame" : Str), (11 : Nat), false), (("NotSame" : Str), (12 : Nat), false), (("NotSame" : Str), (13 : Nat), false), (("NotSame" : Str), (14 : Nat), false), (("Unlike" : Str), (0 : Nat), false), (("Unlike" : Str), (1 : Nat), false), (("Unlike" : Str), (2 : Nat), false), (("Unlike" : Str), (3 : Nat), false), (("Unlike" : Str), (4 : Nat), false), (("Unlike" : Str), (5 : Nat), false), (("Unlike" : Str), (6 : Nat), false), (("Unlike" : Str), (7 : Nat), false), (("Unlike" : Str), (8 : Nat), false), (("Unlike" : Str), (9 : Nat), false), (("Unlike" : Str), (10 : Nat), true), (("Unlike" : Str), (11 : Nat), false), (("Unlike" : Str), (12 : Nat), false), (("Unlike" : Str), (13 : Nat), false), (("Unlike" : Str), (14 : Nat), false), (("NoText" : Str), (0 : Nat), false), (("NoText" : Str), (1 : Nat), false), (("NoText" : Str), (2 : Nat), false), (("NoText" : Str), (3 : Nat), false), (("NoText" : Str), (4 : Nat), false), (("NoText" : Str), (5 : Nat), false), (("NoText" : Str), (6 : Nat), false), (("NoText" : Str), (7 : Nat), false), (("NoText" : Str), (8 : Nat), false), (("NoText" : Str), (9 : Nat), false), (("NoText" : Str), (10 : Nat), false), (("NoText" : Str), (11 : Nat), true), (("NoText" : Str), (12 : Nat), false), (("NoText" : Str), (13 : Nat), false), (("NoText" : Str), (14 : Nat), false), (("NoWord" : Str), (0 : Nat), false), (("NoWord" : Str), (1 : Nat), false), (("NoWord" : Str), (2 : Nat), false), (("NoWord" : Str), (3 : Nat), false), (("NoWord" : Str), (4 : Nat), false), (("NoWord" : Str), (5 : Nat), false), (("NoWord" : Str), (6 : Nat), false), (("NoWord" : Str), (7 : Nat), false), (("NoWord" : Str), (8 : Nat), false), (("NoWord" : Str), (9 : Nat), false), (("NoWord" : Str), (10 : Nat), false), (("NoWord" : Str), (11 : Nat), false), (("NoWord" : Str), (12 : Nat), true), (("NoWord" : Str), (13 : Nat), false), (("NoWord" : Str), (14 : Nat), false), (("TwiceTold" : Str), (0 : Nat), false), (("TwiceTold" : Str), (1 : Nat), false), (("TwiceTold" : Str), (2 : Nat), false), (("TwiceTold" : Str), (3 : Nat), false), (("TwiceTold" : Str), (4 : Nat), false), (("TwiceTold" : Str), (5 : Nat), false), (("TwiceTold" : Str), (6 : Nat), false), (("TwiceTold" : Str), (7 : Nat), false), (("TwiceTold" : Str), (8 : Nat), false), (("TwiceTold" : Str), (9 : Nat), false), (("TwiceTold" : Str), (10 : Nat), false), (("TwiceTold" : Str), (11 : Nat), false), (("TwiceTold" : Str), (12 : Nat), false), (("TwiceTold" : Str), (13 : Nat), true), (("TwiceTold" : Str), (14 : Nat), false), (("NotClosed" : Str), (0 : Nat), false), (("NotClosed" : Str), (1 : Nat), false), (("NotClosed" : Str), (2 : Nat), false), (("NotClosed" : Str), (3 : Nat), false), (("NotClosed" : Str), (4 : Nat), false), (("NotClosed" : Str), (5 : Nat), false), (("NotClosed" : Str), (6 : Nat), false), (("NotClosed" : Str), (7 : Nat), false), (("NotClosed" : Str), (8 : Nat), false), (("NotClosed" : Str), (9 : Nat), false), (("NotClosed" : Str), (10 : Nat), false), (("NotClosed" : Str), (11 : Nat), false), (("NotClosed" : Str), (12 : Nat), false), (("NotClosed" : Str), (13 : Nat), false), (("NotClosed" : Str), (14 : Nat), true), (("Dry" : Str), (0 : Nat), false), (("Dry" : Str), (1 : Nat), false), (("Dry" : Str), (2 : Nat), false), (("Dry" : Str), (3 : Nat), false), (("Dry" : Str), (4 : Nat), true), (("Dry" : Str), (5 : Nat), false), (("Dry" : Str), (6 : Nat), false), (("Dry" : Str), (7 : Nat), false), (("Dry" : Str), (8 : Nat), false), (("Dry" : Str), (9 : Nat), false), (("Dry" : Str), (10 : Nat), false), (("Dry" : Str), (11 : Nat), false), (("Dry" : Str), (12 : Nat), false), (("Dry" : Str), (13 : Nat), false), (("Dry" : Str), (14 : Nat), false), (("NoStep" : Str), (0 : Nat), false), (("NoStep" : Str), (1 : Nat), false), (("NoStep" : Str), (2 : Nat), false), (("NoStep" : Str), (3 : Nat), true), (("NoStep" : Str), (4 : Nat), false), (("NoStep" : Str), (5 : Nat), false), (("NoStep" : Str), (6 : Nat), false), (("NoStep" : Str), (7 : Nat), false), (("NoStep" : Str), (8 : Nat), false), (("NoStep" : Str), (9 : Nat), false), (("NoStep" : Str), (10 : Nat), false), (("NoStep" : Str), (11 : Nat), false), (("NoStep" : Str), (12 : Nat), false), (("NoStep" : Str), (13 : Nat), false), (("NoStep" : Str), (14 : Nat), false), (("NoPlace" : Str), (0 : Nat), false), (("NoPlace" : Str), (1 : Nat), false), (("NoPlace" : Str), (2 : Nat), true), (("NoPlace" : Str), (3 : Nat), false), (("NoPlace" : Str), (4 : Nat), false), (("NoPlace" : Str), (5 : Nat), false), (("NoPlace" : Str), (6 : Nat), false), (("NoPlace" : Str), (7 : Nat), false), (("NoPlace" : Str), (8 : Nat), false), (("NoPlace" : Str), (9 : Nat), false), (("NoPlace" : Str), (10 : Nat), false), (("NoPlace" : Str), (11 : Nat), false), (("NoPlace" : Str), (12 : Nat), false), (("NoPlace" : Str), (13 : Nat), false), (("NoPlace" : Str), (14 : Nat), false), (("Great" : Str), (0 : Nat), false), (("Great" : Str), (1 : Nat), true), (("Great" : Str), (2 : Nat), false), (("Great" : Str), (3 : Nat), false), (("Great" : Str), (4 : Nat), false), (("Great" : Str), (5 : Nat), false), (("Great" : Str), (6 : Nat), false), (("Great" : Str), (7 : Nat), false), (("Great" : Str), (8 : Nat), false), (("Great" : Str), (9 : Nat), false), (("Great" : Str), (10 : Nat), false), (("Great" : Str), (11 : Nat), false), (("Great" : Str), (12 : Nat), false), (("Great" : Str), (13 : Nat), false), (("Great" : Str), (14 : Nat), false)]⟩
def g : GL := glOf dd fre cst cls exm ht
def T : Nat → Option FD := tabOf dd
theorem s0 : Stc g T d0 0 := ⟨⟨⟨rfl, rfl, rfl, by decide +kernel, rfl, by decide +kernel, by decide +kernel⟩, ⟨_, rfl, readD_ok (by kernel_rfl)⟩, fun h => absurd h (by decide)⟩, fun _ _ _ _ _ _ us hl => match us, hl with | [_], _ => rfl⟩
theorem s1 : Stc g T d1 1 := ⟨⟨⟨rfl, rfl, rfl, by decide +kernel, rfl, by decide +kernel, by decide +kernel⟩, ⟨_, rfl, readD_ok (by kernel_rfl)⟩, fun h => absurd h (by decide)⟩, fun _ _ _ _ _ _ us hl => match us, hl with | [_], _ => rfl⟩
theorem s2 : Stc g T d2 2 := ⟨⟨⟨rfl, rfl, rfl, by decide +kernel, rfl, by decide +kernel, by decide +kernel⟩, ⟨_, rfl, readD_ok (by kernel_rfl)⟩, fun h => absurd h (by decide)⟩, fun _ _ _ _ _ _ us hl => match us, hl with | [_, _], _ => rfl⟩
theorem s3 : Stc g T d3 3 := ⟨⟨⟨rfl, rfl, rfl, by decide +kernel, rfl, by decide +kernel, by decide +kernel⟩, ⟨_, rfl, readD_ok (by kernel_rfl)⟩, fun h => absurd h (by decide)⟩, fun _ _ _ _ _ _ us hl => match us, hl with | [_], _ => rfl⟩
theorem s4 : Stc g T d4 4 := ⟨⟨⟨rfl, rfl, rfl, by decide +kernel, rfl, by decide +kernel, by decide +kernel⟩, ⟨_, rfl, readD_ok (by kernel_rfl)⟩, fun h => absurd h (by decide)⟩, fun _ _ _ _ _ _ us hl => match us, hl with | [_], _ => rfl⟩
theorem s5 : Stc g T d5 5 := ⟨⟨⟨rfl, rfl, rfl, by decide +kernel, rfl, by decide +kernel, by decide +kernel⟩, ⟨_, rfl, readD_ok (by kernel_rfl)⟩, fun h => absurd h (by decide)⟩, fun _ _ _ _ _ _ us hl => match us, hl with | [_], _ => rfl⟩
theorem s6 : Stc g T d6 6 := ⟨⟨⟨rfl, rfl, rfl, by decide +kernel, rfl, by decide +kernel, by decide +kernel⟩, ⟨_, rfl, readD_ok (by kernel_rfl)⟩, fun h => absurd h (by decide)⟩, fun _ _ _ _ _ _ us hl => match us, hl with | [_], _ => rfl⟩
theorem s7 : Stc g T d7 7 := ⟨⟨⟨rfl, rfl, rfl, by decide +kernel, rfl, by decide +kernel, by decide +kernel⟩, ⟨_, rfl, readD_ok (by kernel_rfl)⟩, fun h => absurd h (by decide)⟩, fun _ _ _ _ _ _ us hl => match us, hl with | [_, _], _ => rfl⟩
theorem s8 : Stc g T d8 8 := ⟨⟨⟨rfl, rfl, rfl, by decide +kernel, rfl, by decide +kernel, by decide +kernel⟩, ⟨_, rfl, readD_ok (by kernel_rfl)⟩, fun h => absurd h (by decide)⟩, fun _ _ _ _ _ _ us hl => match us, hl with | [_, _], _ => rfl⟩
theorem s9 : Stc g T d9 9 := ⟨⟨⟨rfl, rfl, rfl, by decide +kernel, rfl, by decide +kernel, by decide +kernel⟩, ⟨_, rfl, readD_ok (by kernel_rfl)⟩, fun h => absurd h (by decide)⟩, fun _ _ _ _ _ _ us hl => match us, hl with | [_, _], _ => rfl⟩
theorem s10 : Stc g T d10 10 := ⟨⟨⟨rfl, rfl, rfl, by decide +kernel, rfl, by decide +kernel, by decide +kernel⟩, ⟨_, rfl, readD_ok (by kernel_rfl)⟩, fun h => absurd h (by decide)⟩, fun _ _ _ _ _ _ us hl => match us, hl with | [_, _, _], _ => rfl⟩
theorem s11 : Stc g T d11 11 := ⟨⟨⟨rfl, rfl, rfl, by decide +kernel, rfl, by decide +kernel, by decide +kernel⟩, ⟨_, rfl, readD_ok (by kernel_rfl)⟩, fun h => absurd h (by decide)⟩, fun _ _ _ _ _ _ us hl => match us, hl with | [_, _, _], _ => rfl⟩
theorem s12 : Stc g T d12 12 := ⟨⟨⟨rfl, rfl, rfl, by decide +kernel, rfl, by decide +kernel, by decide +kernel⟩, ⟨_, rfl, readD_ok (by kernel_rfl)⟩, fun h => absurd h (by decide)⟩, fun _ _ _ _ _ _ us hl => match us, hl with | [_, _, _], _ => rfl⟩
theorem s13 : Stc g T d13 13 := ⟨⟨⟨rfl, rfl, rfl, by decide +kernel, rfl, by decide +kernel, by decide +kernel⟩, ⟨_, rfl, readD_ok (by kernel_rfl)⟩, fun h => absurd h (by decide)⟩, fun _ _ _ _ _ _ us hl => match us, hl with | [_, _, _], _ => rfl⟩
theorem s14 : Stc g T d14 14 := ⟨⟨⟨rfl, rfl, rfl, by decide +kernel, rfl, by decide +kernel, by decide +kernel⟩, ⟨_, rfl, readD_ok (by kernel_rfl)⟩, fun h => absurd h (by decide)⟩, fun _ _ _ _ _ _ us hl => match us, hl with | [_, _, _, _], _ => rfl⟩
theorem s15 : Stc g T d15 15 := ⟨⟨⟨rfl, rfl, rfl, by decide +kernel, rfl, by decide +kernel, by decide +kernel⟩, ⟨_, rfl, readD_ok (by kernel_rfl)⟩, fun h => absurd h (by decide)⟩, fun _ _ _ _ _ _ us hl => match us, hl with | [_, _, _], _ => rfl⟩
theorem s16 : Stc g T d16 16 := ⟨⟨⟨rfl, rfl, rfl, by decide +kernel, rfl, by decide +kernel, by decide +kernel⟩, ⟨_, rfl, readD_ok (by kernel_rfl)⟩, fun h => absurd h (by decide)⟩, fun _ _ _ _ _ _ us hl => match us, hl with | [_, _], _ => rfl⟩
theorem s17 : Stc g T d17 17 := ⟨⟨⟨rfl, rfl, rfl, by decide +kernel, rfl, by decide +kernel, by decide +kernel⟩, ⟨_, rfl, readD_ok (by kernel_rfl)⟩, fun h => absurd h (by decide)⟩, fun _ _ _ _ _ _ us hl => match us, hl with | [_], _ => rfl⟩
theorem s18 : Stc g T d18 18 := ⟨⟨⟨rfl, rfl, rfl, by decide +kernel, rfl, by decide +kernel, by decide +kernel⟩, ⟨_, rfl, readD_ok (by kernel_rfl)⟩, fun h => absurd h (by decide)⟩, fun _ _ _ _ _ _ us hl => match us, hl with | [_, _, _], _ => rfl⟩
theorem s19 : Stc g T d19 19 := ⟨⟨⟨rfl, rfl, rfl, by decide +kernel, rfl, by decide +kernel, by decide +kernel⟩, ⟨_, rfl, readD_ok (by kernel_rfl)⟩, fun h => absurd h (by decide)⟩, fun _ _ _ _ _ _ us hl => match us, hl with | [_, _, _], _ => rfl⟩
theorem s20 : Stc g T d20 20 := ⟨⟨⟨rfl, rfl, rfl, by decide +kernel, rfl, by decide +kernel, by decide +kernel⟩, ⟨_, rfl, readD_ok (by kernel_rfl)⟩, fun h => absurd h (by decide)⟩, fun _ _ _ _ _ _ us hl => match us, hl with | [_, _], _ => rfl⟩
theorem s21 : Stc g T d21 21 := ⟨⟨⟨rfl, rfl, rfl, by decide +kernel, rfl, by decide +kernel, by decide +kernel⟩, ⟨_, rfl, readD_ok (by kernel_rfl)⟩, fun h => absurd h (by decide)⟩, fun _ _ _ _ _ _ us hl => match us, hl with | [_, _, _], _ => rfl⟩
theorem s22 : Stc g T d22 22 := ⟨⟨⟨rfl, rfl, rfl, by decide +kernel, rfl, by decide +kernel, by decide +kernel⟩, ⟨_, rfl, readD_ok (by kernel_rfl)⟩, fun h => absurd h (by decide)⟩, fun _ _ _ _ _ _ us hl => match us, hl with | [_, _, _], _ => rfl⟩
theorem s23 : Stc g T d23 23 := ⟨⟨⟨rfl, rfl, rfl, by decide +kernel, rfl, by decide +kernel, by decide +kernel⟩, ⟨_, rfl, readD_ok (by kernel_rfl)⟩, fun h => absurd h (by decide)⟩, fun _ _ _ _ _ _ us hl => match us, hl with | [_], _ => rfl⟩
theorem s24 : Stc g T d24 24 := ⟨⟨⟨rfl, rfl, rfl, by decide +kernel, rfl, by decide +kernel, by decide +kernel⟩, ⟨_, rfl, readD_ok (by kernel_rfl)⟩, fun h => absurd h (by decide)⟩, fun _ _ _ _ _ _ us hl => match us, hl with | [_, _], _ => rfl⟩
theorem s25 : Stc g T d25 25 := ⟨⟨⟨rfl, rfl, rfl, by decide +kernel, rfl, by decide +kernel, by decide +kernel⟩, ⟨_, rfl, readD_ok (by kernel_rfl)⟩, fun h => absurd h (by decide)⟩, fun _ _ _ _ _ _ us hl => match us, hl with | [_, _, _, _], _ => rfl⟩
theorem s26 : Stc g T d26 26 := ⟨⟨⟨rfl, rfl, rfl, by decide +kernel, rfl, by decide +kernel, by decide +kernel⟩, ⟨_, rfl, readD_ok (by kernel_rfl)⟩, fun h => absurd h (by decide)⟩, fun _ _ _ _ _ _ us hl => match us, hl with | [_, _, _, _, _], _ => rfl⟩
theorem s27 : Stc g T d27 27 := ⟨⟨⟨rfl, rfl, rfl, by decide +kernel, rfl, by decide +kernel, by decide +kernel⟩, ⟨_, rfl, readD_ok (by kernel_rfl)⟩, fun h => absurd h (by decide)⟩, fun _ _ _ _ _ _ us hl => match us, hl with | [_, _, _, _, _], _ => rfl⟩
theorem s28 : Stc g T d28 28 := ⟨⟨⟨rfl, rfl, rfl, by decide +kernel, rfl, by decide +kernel, by decide +kernel⟩, ⟨_, rfl, readD_ok (by kernel_rfl)⟩, fun h => absurd h (by decide)⟩, fun _ _ _ _ _ _ us hl => match us, hl with | [_, _, _, _, _], _ => rfl⟩
theorem s29 : Stc g T d29 29 := ⟨⟨⟨rfl, rfl, rfl, by decide +kernel, rfl, by decide +kernel, by decide +kernel⟩, ⟨_, rfl, readD_ok (by kernel_rfl)⟩, fun h => absurd h (by decide)⟩, fun _ _ _ _ _ _ us hl => match us, hl with | [_, _, _, _, _], _ => rfl⟩
theorem s30 : Stc g T d30 30 := ⟨⟨⟨rfl, rfl, rfl, by decide +kernel, rfl, by decide +kernel, by decide +kernel⟩, ⟨_, rfl, readD_ok (by kernel_rfl)⟩, fun h => absurd h (by decide)⟩, fun _ _ _ _ _ _ us hl => match us, hl with | [_, _, _, _, _], _ => rfl⟩
theorem s31 : Stc g T d31 31 := ⟨⟨⟨rfl, rfl, rfl, by decide +kernel, rfl, by decide +kernel, by decide +kernel⟩, ⟨_, rfl, readD_ok (by kernel_rfl)⟩, fun h => absurd h (by decide)⟩, fun _ _ _ _ _ _ us hl => match us, hl with | [_, _, _, _, _, _], _ => rfl⟩
theorem s32 : Stc g T d32 32 := ⟨⟨⟨rfl, rfl, rfl, by decide +kernel, rfl, by decide +kernel, by decide +kernel⟩, ⟨_, rfl, readD_ok (by kernel_rfl)⟩, fun h => absurd h (by decide)⟩, fun _ _ _ _ _ _ us hl => match us, hl with | [_, _, _, _, _, _], _ => rfl⟩
theorem s33 : Stc g T d33 33 := ⟨⟨⟨rfl, rfl, rfl, by decide +kernel, rfl, by decide +kernel, by decide +kernel⟩, ⟨_, rfl, readD_ok (by kernel_rfl)⟩, fun h => absurd h (by decide)⟩, fun _ _ _ _ _ _ us hl => match us, hl with | [_, _, _, _, _], _ => rfl⟩
theorem s34 : Stc g T d34 34 := ⟨⟨⟨rfl, rfl, rfl, by decide +kernel, rfl, by decide +kernel, by decide +kernel⟩, ⟨_, rfl, readD_ok (by kernel_rfl)⟩, fun h => absurd h (by decide)⟩, fun _ _ _ _ _ _ us hl => match us, hl with | [_], _ => rfl⟩
theorem s35 : Stc g T d35 35 := ⟨⟨⟨rfl, rfl, rfl, by decide +kernel, rfl, by decide +kernel, by decide +kernel⟩, ⟨_, rfl, readD_ok (by kernel_rfl)⟩, fun h => absurd h (by decide)⟩, fun _ _ _ _ _ _ us hl => match us, hl with | [_], _ => rfl⟩
theorem s36 : Stc g T d36 36 := ⟨⟨⟨rfl, rfl, rfl, by decide +kernel, rfl, by decide +kernel, by decide +kernel⟩, ⟨_, rfl, readD_ok (by kernel_rfl)⟩, fun h => absurd h (by decide)⟩, fun _ _ _ _ _ _ us hl => match us, hl with | [_], _ => rfl⟩
theorem s37 : Stc g T d37 37 := ⟨⟨⟨rfl, rfl, rfl, by decide +kernel, rfl, by decide +kernel, by decide +kernel⟩, ⟨_, rfl, readD_ok (by kernel_rfl)⟩, fun h => absurd h (by decide)⟩, fun _ _ _ _ _ _ us hl => match us, hl with | [_, _, _, _, _], _ => rfl⟩
theorem s38 : Stc g T d38 38 := ⟨⟨⟨rfl, rfl, rfl, by decide +kernel, rfl, by decide +kernel, by decide +kernel⟩, ⟨_, rfl, readD_ok (by kernel_rfl)⟩, fun h => absurd h (by decide)⟩, fun _ _ _ _ _ _ us hl => match us, hl with | [_, _, _], _ => rfl⟩
theorem s39 : Stc g T d39 39 := ⟨⟨⟨rfl, rfl, rfl, by decide +kernel, rfl, by decide +kernel, by decide +kernel⟩, ⟨_, rfl, readD_ok (by kernel_rfl)⟩, fun h => absurd h (by decide)⟩, fun _ _ _ _ _ _ us hl => match us, hl with | [_, _], _ => rfl⟩
theorem s40 : Stc g T d40 40 := ⟨⟨⟨rfl, rfl, rfl, by decide +kernel, rfl, by decide +kernel, by decide +kernel⟩, ⟨_, rfl, readD_ok (by kernel_rfl)⟩, fun h => absurd h (by decide)⟩, fun _ _ _ _ _ _ us hl => match us, hl with | [_, _], _ => rfl⟩
theorem s41 : Stc g T d41 41 := ⟨⟨⟨rfl, rfl, rfl, by decide +kernel, rfl, by decide +kernel, by decide +kernel⟩, ⟨_, rfl, readD_ok (by kernel_rfl)⟩, fun _ => ⟨_, rfl, readD_ok (by kernel_rfl)⟩⟩, fun _ _ _ _ _ _ us hl => match us, hl with | [_], _ => rfl⟩
theorem s42 : Stc g T d42 42 := ⟨⟨⟨rfl, rfl, rfl, by decide +kernel, rfl, by decide +kernel, by decide +kernel⟩, ⟨_, rfl, readD_ok (by kernel_rfl)⟩, fun h => absurd h (by decide)⟩, fun _ _ _ _ _ _ us hl => match us, hl with | [_, _], _ => rfl⟩
theorem s43 : Stc g T d43 43 := ⟨⟨⟨rfl, rfl, rfl, by decide +kernel, rfl, by decide +kernel, by decide +kernel⟩, ⟨_, rfl, readD_ok (by kernel_rfl)⟩, fun h => absurd h (by decide)⟩, fun _ _ _ _ _ _ us hl => match us, hl with | [_, _, _], _ => rfl⟩
theorem s44 : Stc g T d44 44 := ⟨⟨⟨rfl, rfl, rfl, by decide +kernel, rfl, by decide +kernel, by decide +kernel⟩, ⟨_, rfl, readD_ok (by kernel_rfl)⟩, fun h => absurd h (by decide)⟩, fun _ _ _ _ _ _ us hl => match us, hl with | [_, _, _], _ => rfl⟩
theorem s45 : Stc g T d45 45 := ⟨⟨⟨rfl, rfl, rfl, by decide +kernel, rfl, by decide +kernel, by decide +kernel⟩, ⟨_, rfl, readD_ok (by kernel_rfl)⟩, fun h => absurd h (by decide)⟩, fun _ _ _ _ _ _ us hl => match us, hl with | [_, _], _ => rfl⟩
theorem s46 : Stc g T d46 46 := ⟨⟨⟨rfl, rfl, rfl, by decide +kernel, rfl, by decide +kernel, by decide +kernel⟩, ⟨_, rfl, readD_ok (by kernel_rfl)⟩, fun h => absurd h (by decide)⟩, fun _ _ _ _ _ _ us hl => match us, hl with | [_, _, _], _ => rfl⟩
theorem s47 : Stc g T d47 47 := ⟨⟨⟨rfl, rfl, rfl, by decide +kernel, rfl, by decide +kernel, by decide +kernel⟩, ⟨_, rfl, readD_ok (by kernel_rfl)⟩, fun h => absurd h (by decide)⟩, fun _ _ _ _ _ _ us hl => match us, hl with | [_, _, _], _ => rfl⟩
theorem s48 : Stc g T d48 48 := ⟨⟨⟨rfl, rfl, rfl, by decide +kernel, rfl, by decide +kernel, by decide +kernel⟩, ⟨_, rfl, readD_ok (by kernel_rfl)⟩, fun h => absurd h (by decide)⟩, fun _ _ _ _ _ _ us hl => match us, hl with | [_, _], _ => rfl⟩
theorem s49 : Stc g T d49 49 := ⟨⟨⟨rfl, rfl, rfl, by decide +kernel, rfl, by decide +kernel, by decide +kernel⟩, ⟨_, rfl, readD_ok (by kernel_rfl)⟩, fun h => absurd h (by decide)⟩, fun _ _ _ _ _ _ us hl => match us, hl with | [_], _ => rfl⟩
theorem stc : AllS g T dd 0 := ⟨s0, s1, s2, s3, s4, s5, s6, s7, s8, s9, s10, s11, s12, s13, s14, s15, s16, s17, s18, s19, s20, s21, s22, s23, s24, s25, s26, s27, s28, s29, s30, s31, s32, s33, s34, s35, s36, s37, s38, s39, s40, s41, s42, s43, s44, s45, s46, s47, s48, s49, trivial⟩
theorem r0 (n : Nat) : callE T (n + 1) 0 = runD (callE T n) 1 1 d0.m := callE_run rfl
theorem r1 (n : Nat) : callE T (n + 1) 1 = runD (callE T n) 1 1 d1.m := callE_run rfl
theorem r2 (n : Nat) : callE T (n + 1) 2 = runD (callE T n) 2 2 d2.m := callE_run rfl
theorem r3 (n : Nat) : callE T (n + 1) 3 = runD (callE T n) 1 3 d3.m := callE_run rfl
theorem r4 (n : Nat) : callE T (n + 1) 4 = runD (callE T n) 1 2 d4.m := callE_run rfl
theorem r5 (n : Nat) : callE T (n + 1) 5 = runD (callE T n) 1 2 d5.m := callE_run rfl
theorem r6 (n : Nat) : callE T (n + 1) 6 = runD (callE T n) 1 1 d6.m := callE_run rfl
theorem r7 (n : Nat) : callE T (n + 1) 7 = runD (callE T n) 2 2 d7.m := callE_run rfl
theorem r8 (n : Nat) : callE T (n + 1) 8 = runD (callE T n) 2 3 d8.m := callE_run rfl
theorem r9 (n : Nat) : callE T (n + 1) 9 = runD (callE T n) 2 3 d9.m := callE_run rfl
theorem r10 (n : Nat) : callE T (n + 1) 10 = runD (callE T n) 3 4 d10.m := callE_run rfl
theorem r11 (n : Nat) : callE T (n + 1) 11 = runD (callE T n) 3 3 d11.m := callE_run rfl
theorem r12 (n : Nat) : callE T (n + 1) 12 = runD (callE T n) 3 5 d12.m := callE_run rfl
theorem r13 (n : Nat) : callE T (n + 1) 13 = runD (callE T n) 3 6 d13.m := callE_run rfl
theorem r14 (n : Nat) : callE T (n + 1) 14 = runD (callE T n) 4 7 d14.m := callE_run rfl
theorem r15 (n : Nat) : callE T (n + 1) 15 = runD (callE T n) 3 4 d15.m := callE_run rfl
theorem r16 (n : Nat) : callE T (n + 1) 16 = runD (callE T n) 2 3 d16.m := callE_run rfl
theorem r17 (n : Nat) : callE T (n + 1) 17 = runD (callE T n) 1 4 d17.m := callE_run rfl
theorem r18 (n : Nat) : callE T (n + 1) 18 = runD (callE T n) 3 3 d18.m := callE_run rfl
theorem r19 (n : Nat) : callE T (n + 1) 19 = runD (callE T n) 3 5 d19.m := callE_run rfl
theorem r20 (n : Nat) : callE T (n + 1) 20 = runD (callE T n) 2 8 d20.m := callE_run rfl
theorem r21 (n : Nat) : callE T (n + 1) 21 = runD (callE T n) 3 5 d21.m := callE_run rfl
theorem r22 (n : Nat) : callE T (n + 1) 22 = runD (callE T n) 3 5 d22.m := callE_run rfl
theorem r23 (n : Nat) : callE T (n + 1) 23 = runD (callE T n) 1 1 d23.m := callE_run rfl
theorem r24 (n : Nat) : callE T (n + 1) 24 = runD (callE T n) 2 11 d24.m := callE_run rfl
theorem r25 (n : Nat) : callE T (n + 1) 25 = runD (callE T n) 4 5 d25.m := callE_run rfl
theorem r26 (n : Nat) : callE T (n + 1) 26 = runD (callE T n) 5 8 d26.m := callE_run rfl
theorem r27 (n : Nat) : callE T (n + 1) 27 = runD (callE T n) 5 6 d27.m := callE_run rfl
theorem r28 (n : Nat) : callE T (n + 1) 28 = runD (callE T n) 5 7 d28.m := callE_run rfl
theorem r29 (n : Nat) : callE T (n + 1) 29 = runD (callE T n) 5 6 d29.m := callE_run rfl
theorem r30 (n : Nat) : callE T (n + 1) 30 = runD (callE T n) 5 5 d30.m := callE_run rfl
theorem r31 (n : Nat) : callE T (n + 1) 31 = runD (callE T n) 6 10 d31.m := callE_run rfl
theorem r32 (n : Nat) : callE T (n + 1) 32 = runD (callE T n) 6 9 d32.m := callE_run rfl
theorem r33 (n : Nat) : callE T (n + 1) 33 = runD (callE T n) 5 6 d33.m := callE_run rfl
theorem r34 (n : Nat) : callE T (n + 1) 34 = runD (callE T n) 1 1 d34.m := callE_run rfl
theorem r35 (n : Nat) : callE T (n + 1) 35 = runD (callE T n) 1 6 d35.m := callE_run rfl
theorem r36 (n : Nat) : callE T (n + 1) 36 = runD (callE T n) 1 2 d36.m := callE_run rfl
theorem r37 (n : Nat) : callE T (n + 1) 37 = runD (callE T n) 5 6 d37.m := callE_run rfl
theorem r38 (n : Nat) : callE T (n + 1) 38 = runD (callE T n) 3 6 d38.m := callE_run rfl
theorem r39 (n : Nat) : callE T (n + 1) 39 = runD (callE T n) 2 4 d39.m := callE_run rfl
theorem r40 (n : Nat) : callE T (n + 1) 40 = runD (callE T n) 2 9 d40.m := callE_run rfl
theorem r41 (n : Nat) : callE T (n + 1) 41 = runD (callE T n) 1 3 d41.m := callE_run rfl
theorem r42 (n : Nat) : callE T (n + 1) 42 = runD (callE T n) 2 6 d42.m := callE_run rfl
theorem r43 (n : Nat) : callE T (n + 1) 43 = runD (callE T n) 3 4 d43.m := callE_run rfl
theorem r44 (n : Nat) : callE T (n + 1) 44 = runD (callE T n) 3 5 d44.m := callE_run rfl
theorem r45 (n : Nat) : callE T (n + 1) 45 = runD (callE T n) 2 6 d45.m := callE_run rfl
theorem r46 (n : Nat) : callE T (n + 1) 46 = runD (callE T n) 3 6 d46.m := callE_run rfl
theorem r47 (n : Nat) : callE T (n + 1) 47 = runD (callE T n) 3 5 d47.m := callE_run rfl
theorem r48 (n : Nat) : callE T (n + 1) 48 = runD (callE T n) 2 2 d48.m := callE_run rfl
theorem r49 (n : Nat) : callE T (n + 1) 49 = runD (callE T n) 1 12 d49.m := callE_run rfl
end Kp.k23

set_option Elab.async false
set_option linter.all false
set_option maxRecDepth 100000
set_option maxHeartbeats 8000000
set_option autoImplicit false
/-! Z23: the law of normal, run. -/
namespace Kp
open PySem PySem.Spec PyProof.Rows L2
def Sms.nt : Nat → Sms → Sm
  | _, .nil => .pass
  | 0, .cons s _ => s
  | n + 1, .cons _ r => r.nt n
section
variable {cl : Cl} {ksm kto kd kdu kch ksu kun kme kth kbo kpo : Nat}
@[reducible] def En23 (ns : List Int) (t : Th) (f : Nat) (du w : Option PV) : En := [some (.p (.list (ns.map .int))), some (.loc 0), some (.loc 1), some (.loc 2), some (.p t.e), some (.p (.int (f : Int))), du, none, none, none, none, w]
theorem z23_A {ns : List Int} {t : Th} {f k : Nat} {S : Sto} (hd : SDraw2 (cl kd)) (hm : SMeas (cl kme) 50) (h : S[0]? = some (tp k)) (hk : k + 10 ≤ 1000000) (hv : t.vs) (ht : t.dp ≤ 40) (hf : f ≤ 60) :
    ∃ (f' k' : Nat), f' ≤ 60 ∧ k' ≤ k + 2 ∧ exs cl ((m_law_v7 ksm kto kd kdu kch ksu kun kme kth kbo kpo).nt 5) (En23 ns t f none none) S = .nx (En23 ns t f' none none) (S.set 0 (tp k')) := by
  obtain ⟨r, r0, r1, er⟩ := hd ns S 0 k 3 h (by omega) (by decide)
  have h1 : (S.set 0 (tp (k + 1)))[0]? = some (tp (k + 1)) := set_at (has_of h)
  obtain ⟨r2, p0, p1, er2⟩ := hd ns (S.set 0 (tp (k + 1))) 0 (k + 1) 61 h1 (by omega) (by decide)
  rw [List.set_set] at er2
  obtain ⟨q, rfl⟩ := Int.eq_ofNat_of_zero_le p0
  have em := hm t (S.set 0 (tp (k + 1))) (by omega) hv
  by_cases c : r = 0
  · by_cases c2 : (t.sz : Int) < 30
    · refine ⟨q, k + 2, by omega, by omega, ?_⟩
      show exs cl (.ift _ _ _) _ _ = _
      simp [er, em, c, c2, er2]
    · refine ⟨f, k + 1, hf, by omega, ?_⟩
      show exs cl (.ift _ _ _) _ _ = _
      simp [er, em, c, c2]
  · refine ⟨f, k + 1, hf, by omega, ?_⟩
    show exs cl (.ift _ _ _) _ _ = _
    simp [er, em, c]
theorem z23_C {ns : List Int} {t : Th} {f k : Nat} {S : Sto} (hd : SDraw2 (cl kd)) (hs : SSum (cl ksu)) (h : S[0]? = some (tp k)) (hk : k + 10 ≤ 1000000) (hv : t.vs) (hso : t.so) (hz : t.sz ≤ 600) (ht : t.dp ≤ 40) (hf : f ≤ 60) :
    ∃ (t' : Th) (f' k' : Nat), f' ≤ 60 ∧ k' ≤ k + 3 ∧ t'.vs ∧ t'.so ∧ t'.sz ≤ 600 ∧ t'.dp ≤ 40 ∧ exs cl ((m_law_v7 ksm kto kd kdu kch ksu kun kme kth kbo kpo).nt 7) (En23 ns t f none none) S = .nx (En23 ns t' f' none none) (S.set 0 (tp k')) := by
  obtain ⟨r, r0, r1, er⟩ := hd ns S 0 k 4 h (by omega) (by decide)
  have h1 : (S.set 0 (tp (k + 1)))[0]? = some (tp (k + 1)) := set_at (has_of h)
  by_cases c : r = 0
  · obtain ⟨t', a1, a2, a3, a4, e⟩ := hs ns (S.set 0 (tp (k + 1))) 0 (k + 1) h1 (by omega)
    rw [List.set_set] at e
    refine ⟨t', 60, k + 1 + 2, by omega, by omega, a1, a2, by omega, by omega, ?_⟩
    show exs cl (.ift _ _ _) _ _ = _
    simp [er, c, e]
  · refine ⟨t, f, k + 1, hf, by omega, hv, hso, hz, ht, ?_⟩
    show exs cl (.ift _ _ _) _ _ = _
    simp [er, c]
theorem z23_D {ns : List Int} {t : Th} {f k : Nat} {bk : Bk} {S : Sto} (hd : SDraw2 (cl kd)) (hc : SChain (cl kch)) (h : S[0]? = some (tp k)) (h2 : S[2]? = some (.dct (encB bk))) (hb : BkG bk) (hl : bk.length ≤ 1000) (hk : k + 10 ≤ 1000000) (hv : t.vs) (hso : t.so) (hz : t.sz ≤ 600) (ht : t.dp ≤ 40) (hf : f ≤ 60) :
    ∃ (t' : Th) (f' k' : Nat) (bk' : Bk) (w : Option PV), f' ≤ 500 ∧ k' ≤ k + 3 ∧ t'.vs ∧ t'.so ∧ t'.sz ≤ 600 ∧ t'.dp ≤ 40 ∧ BkG bk' ∧ exs cl ((m_law_v7 ksm kto kd kdu kch ksu kun kme kth kbo kpo).nt 8) (En23 ns t f none none) S = .nx (En23 ns t' f' none w) ((S.set 0 (tp k')).set 2 (.dct (encB bk'))) := by
  obtain ⟨r, r0, r1, er⟩ := hd ns S 0 k 7 h (by omega) (by decide)
  have h1 : (S.set 0 (tp (k + 1)))[0]? = some (tp (k + 1)) := set_at (has_of h)
  by_cases c : r = 0
  · obtain ⟨m, p0, p1, er2⟩ := hd ns (S.set 0 (tp (k + 1))) 0 (k + 1) 130 h1 (by omega) (by decide)
    rw [List.set_set] at er2
    have h3 : (S.set 0 (tp (k + 1 + 1)))[0]? = some (tp (k + 1 + 1)) := set_at (has_of h)
    obtain ⟨v, q0, q1, er3⟩ := hd ns (S.set 0 (tp (k + 1 + 1))) 0 (k + 1 + 1) 5 h3 (by omega) (by decide)
    rw [List.set_set] at er3
    obtain ⟨m, rfl⟩ := Int.eq_ofNat_of_zero_le p0
    have h4 : (S.set 0 (tp (k + 1 + 1 + 1)))[2]? = some (.dct (encB bk)) := by rw [List.getElem?_set_ne (by decide)]; exact h2
    have key : ∀ n : Nat, n < 670 → ∃ bk', BkG bk' ∧ cl kch [.p (.int (n : Int)), .loc 2] (S.set 0 (tp (k + 1 + 1 + 1))) = .ok (.p (.str (qn n))) ((S.set 0 (tp (k + 1 + 1 + 1))).set 2 (.dct (encB (chB n bk)))) ∧ puK (encB (chB n bk)) (.inr (qn n)) (.tuple [.tuple [.str "nat"], .tuple [.str "zero"]]) = encB bk' ∧ (encB (chB n bk)).length < 1000000 ∧ ((S.set 0 (tp (k + 1 + 1 + 1))).set 2 (.dct (encB (chB n bk))))[2]? = some (.dct (encB (chB n bk))) := by
      intro n hn
      refine ⟨putB (chB n bk) (qn n) (.n0 .nat, .n0 .zero), (chB_g hb n hn).put trivial (by simp) trivial trivial (by simp), hc n bk _ 2 hn h4 hl, puK_encB (bk := chB n bk) (k := qn n) (v := (.n0 .nat, .n0 .zero)), ?_, set_at (has_of h4)⟩
      rw [encB_len]
      have := chB_len (bk := bk) n
      omega
    by_cases c2 : v = 0
    · obtain ⟨bk', g1, g2, g3, g4, g5⟩ := key (m + 300) (by omega)
      refine ⟨.nm "qaa", 500, k + 1 + 1 + 1, bk', some (.p (.int ((m : Int) + 300))), by omega, by omega, trivial, so_qn (k := 0) (by decide), by simp, by simp, g1, ?_⟩
      show exs cl (.ift _ _ _) _ _ = _
      have cc : ((m + 300 : Nat) : Int) = (m : Int) + 300 := by omega
      rw [cc] at g2
      simp [er, c, er2, er3, c2, g2, g3, g4, g5]
      try exact rfl
    · obtain ⟨bk', g1, g2, g3, g4, g5⟩ := key m (by omega)
      refine ⟨.nm "qaa", 500, k + 1 + 1 + 1, bk', some (.p (.int (m : Int))), by omega, by omega, trivial, so_qn (k := 0) (by decide), by simp, by simp, g1, ?_⟩
      show exs cl (.ift _ _ _) _ _ = _
      simp [er, c, er2, er3, c2, g2, g3, g4, g5]
      try exact rfl
  · refine ⟨t, f, k + 1, bk, none, by omega, by omega, hv, hso, hz, ht, hb, ?_⟩
    have h5 : (S.set 0 (tp (k + 1)))[2]? = some (.dct (encB bk)) := by rw [List.getElem?_set_ne (by decide)]; exact h2
    have ss := set_same h5
    show exs cl (.ift _ _ _) _ _ = _
    simp [er, c, ss]
/-- what is due stands in a cell -/
@[reducible] def duV (r : NR) (D : Nat) : PV := .mt [.p (.str (nrW r)), .p (nrT r).e, .loc D]
theorem z23_F {ns : List Int} {t : Th} {f k D : Nat} {bk : Bk} {w : Option PV} {S : Sto} (hd : SDraw2 (cl kd)) (hdu : SDueN (cl kdu)) (h : S[0]? = some (tp k)) (h2 : S[2]? = some (.dct (encB bk))) (hD : S[D]? = some (.lst ((nrL (runT bk f t [])).map encR))) (d0 : D ≠ 0) (hb : BkG bk) (hk : k + 10 ≤ 1000000) (hv : t.vs) (hso : t.so) (hz : t.sz ≤ 600) (ht : t.dp ≤ 40) (hf : f ≤ 500) :
    ∃ (f' D' : Nat) (S' : Sto), f' ≤ 500 ∧ S'[2]? = some (.dct (encB bk)) ∧ S'[D']? = some (.lst ((nrL (runT bk f' t [])).map encR)) ∧ exs cl ((m_law_v7 ksm kto kd kdu kch ksu kun kme kth kbo kpo).nt 10) (En23 ns t f (some (duV (runT bk f t []) D)) w) S = .nx (En23 ns t f' (some (duV (runT bk f' t []) D')) w) S' := by
  obtain ⟨r, r0, r1, er⟩ := hd ns S 0 k 4 h (by omega) (by decide)
  have h1 : (S.set 0 (tp (k + 1)))[0]? = some (tp (k + 1)) := set_at (has_of h)
  have a2 : (S.set 0 (tp (k + 1)))[2]? = some (.dct (encB bk)) := by rw [List.getElem?_set_ne (by decide)]; exact h2
  have aD : (S.set 0 (tp (k + 1)))[D]? = some (.lst ((nrL (runT bk f t [])).map encR)) := by rw [List.getElem?_set_ne (Ne.symm d0)]; exact hD
  have gd := gd_of t hso hv
  by_cases c : r = 0
  · cases q : runT bk f t [] with
    | thing u lg =>
      obtain ⟨r2, p0, p1, er2⟩ := hd ns (S.set 0 (tp (k + 1))) 0 (k + 1) 2 h1 (by omega) (by decide)
      rw [List.set_set] at er2
      have ll := (run_gd hb f t [] gd hz ht (fun r hr => absurd hr List.not_mem_nil) u lg q).2.2.2.2.2
      simp only [List.length_nil, Nat.zero_add] at ll
      rw [q] at aD
      simp only [nrL] at aD
      have b2 : (S.set 0 (tp (k + 1 + 1)))[2]? = some (.dct (encB bk)) := by rw [List.getElem?_set_ne (by decide)]; exact h2
      obtain ⟨f', ef⟩ : ∃ f' : Nat, (if ((lg.length : Int) - r2) > 0 then ((lg.length : Int) - r2) else 0) = (f' : Int) ∧ f' ≤ 500 := by
        split
        · exact ⟨((lg.length : Int) - r2).toNat, by omega, by omega⟩
        · exact ⟨0, rfl, by omega⟩
      have ed := hdu t f' (S.set 0 (tp (k + 1 + 1))) 2 bk b2 hb hz ht gd (by omega)
      refine ⟨f', S.length, S.set 0 (tp (k + 1 + 1)) ++ [.lst ((nrL (runT bk f' t [])).map encR)], ef.2, by rw [at_old (has_of b2)]; exact b2, by simp, ?_⟩
      show exs cl (.ift _ _ _) _ _ = _
      have ef1 := ef.1
      simp only [gt_iff_lt, Int.sub_pos] at ef1
      simp [er, c, nrW, nrT, aD, er2, ef1, ed]
    | dry u lg =>
      rw [q] at aD
      refine ⟨f, D, S.set 0 (tp (k + 1)), hf, a2, by rw [q]; exact aD, ?_⟩
      rw [q]
      show exs cl (.ift _ _ _) _ _ = _
      simp [er, c, nrW, nrT]
    | great u lg =>
      rw [q] at aD
      refine ⟨f, D, S.set 0 (tp (k + 1)), hf, a2, by rw [q]; exact aD, ?_⟩
      rw [q]
      show exs cl (.ift _ _ _) _ _ = _
      simp [er, c, nrW, nrT]
  · refine ⟨f, D, S.set 0 (tp (k + 1)), hf, a2, aD, ?_⟩
    show exs cl (.ift _ _ _) _ _ = _
    simp [er, c]
theorem told8_any {c : Cf} (h : STold8 c) {t : Th} {f : Nat} {S : Sto} {l : Nat} {bk : Bk} (hl : S[l]? = some (.dct (encB bk))) (hb : BkS bk) (hz : t.sz ≤ 600) (hd : t.dp ≤ 40) (hf : f ≤ 100000) : ∃ v q, c [.p t.e, .p (.int (f : Int)), .loc l] S = .ok v (S ++ [q]) := by
  have e := h t f S l bk hl hb hz hd hf
  cases c : runT bk f t [] <;> rw [c] at e <;> exact ⟨_, _, e⟩
/-- what was told, and what is due: one and the same -/
def toT : NR → Th → Th
  | .thing u _, _ => u | _, t => t
def toL : NR → List Row
  | .thing _ l => l | _ => []
theorem told8_v {c : Cf} (h : STold8 c) {t : Th} {f : Nat} {S : Sto} {l : Nat} {bk : Bk} (hl : S[l]? = some (.dct (encB bk))) (hb : BkS bk) (hz : t.sz ≤ 600) (hd : t.dp ≤ 40) (hf : f ≤ 100000) : c [.p t.e, .p (.int (f : Int)), .loc l] S = .ok (.mt [.p (.str (nrW (runT bk f t []))), .p (toT (runT bk f t []) t).e, .loc S.length]) (S ++ [.lst ((toL (runT bk f t [])).map encR)]) := by
  have e := h t f S l bk hl hb hz hd hf
  cases c : runT bk f t [] <;> rw [c] at e <;> exact e
theorem z23_fin {ns : List Int} {t : Th} {f D : Nat} {bk : Bk} {w : Option PV} {S : Sto} (ht8 : STold8 (cl kto)) (hsm : SSame (cl ksm)) (h2 : S[2]? = some (.dct (encB bk))) (hD : S[D]? = some (.lst ((nrL (runT bk f t [])).map encR))) (hb : BkG bk) (hv : t.vs) (hso : t.so) (hz : t.sz ≤ 600) (ht : t.dp ≤ 40) (hf : f ≤ 500) :
    ∃ S', exss cl ((m_law_v7 ksm kto kd kdu kch ksu kun kme kth kbo kpo).dr 11) (En23 ns t f (some (duV (runT bk f t []) D)) w) S = .rt (.p (.bool true)) S' := by
  have gd := gd_of t hso hv
  have shp : nrW (runT bk f t []) = "thing" → (toT (runT bk f t []) t).e = (nrT (runT bk f t [])).e ∧ (toL (runT bk f t [])).map encR = (nrL (runT bk f t [])).map encR ∧ SeqAt.shaped (toT (runT bk f t []) t).e = true ∧ SeqAt.shaped (.list ((toL (runT bk f t [])).map encR)) = true := by
    cases q : runT bk f t [] with
    | thing u lg =>
      intro _
      obtain ⟨a1, a2, a3, a4, _⟩ := run_gd hb f t [] gd hz ht (fun r hr => absurd hr List.not_mem_nil) u lg q
      exact ⟨rfl, rfl, sh_th (gd_so _ a1) (by simp only [toT]; omega), sh_log a4⟩
    | dry u lg => exact fun h => absurd (show ("dry" : Str) = "thing" from h) (by decide +kernel)
    | great u lg => exact fun h => absurd (show ("great" : Str) = "thing" from h) (by decide +kernel)
  have shl : SeqAt.shaped (.list ((toL (runT bk f t [])).map encR)) = true := by
    cases q : runT bk f t [] with
    | thing u lg =>
      obtain ⟨a1, a2, a3, a4, _⟩ := run_gd hb f t [] gd hz ht (fun r hr => absurd hr List.not_mem_nil) u lg q
      exact sh_log a4
    | dry u lg => exact sh_log fun r hr => absurd hr List.not_mem_nil
    | great u lg => exact sh_log fun r hr => absurd hr List.not_mem_nil
  have tl : (toL (runT bk f t [])).length < 1000000 := by
    cases q : runT bk f t [] with
    | thing u lg =>
      have ll := (run_gd hb f t [] gd hz ht (fun r hr => absurd hr List.not_mem_nil) u lg q).2.2.2.2.2
      simp only [List.length_nil, Nat.zero_add] at ll
      show lg.length < _
      omega
    | dry u lg => show (0 : Nat) < _; omega
    | great u lg => show (0 : Nat) < _; omega
  generalize hdl : (nrL (runT bk f t [])).map encR = dl at *
  generalize htl : (toL (runT bk f t [])).map encR = tl' at *
  have tll : tl'.length < 1000000 := by rw [← htl]; simpa using tl
  generalize hnw : nrW (runT bk f t []) = nw at *
  generalize hte : (toT (runT bk f t []) t).e = te at *
  generalize hde : (nrT (runT bk f t [])).e = de at *
  have hi2 := has_of h2
  -- the cells one behind the other
  have c1 := told8_v ht8 (t := t) (f := f) (S := S ++ [.dct (encB bk)]) (l := S.length) (bk := bk) (by simp) hb.s hz ht (by omega)
  rw [hnw, hte, htl] at c1
  have s1 := hsm nw te de (S.length + 1) D tl' dl (S ++ [.dct (encB bk), .lst tl']) (by simp) (by rw [at_old (has_of hD)]; exact hD) shp
  have c2 := told8_v ht8 (t := t) (f := f) (S := S ++ [.dct (encB bk), .lst (tl' ++ [.tuple [.tuple [], .str "fun"]])]) (l := S.length) (bk := bk) (by simp) hb.s hz ht (by omega)
  rw [hnw, hte, htl] at c2
  obtain ⟨v3, q3, c3⟩ := told8_any ht8 (t := .n1 .first (.n3 .pair (.n0 .nat) (.n0 .zero) (.n0 .zero))) (f := 3) (S := S ++ [.dct (encB bk), .lst (tl' ++ [.tuple [.tuple [], .str "fun"]]), .lst tl', .lst tl']) (l := S.length) (bk := bk) (by simp) hb.s (by simp) (by simp) (by omega)
  have s2 := hsm nw te de (S.length + 2) D tl' dl (S ++ [.dct (encB bk), .lst (tl' ++ [.tuple [.tuple [], .str "fun"]]), .lst tl', .lst tl', q3]) (by simp) (by rw [at_old (has_of hD)]; exact hD) shp
  have e2 := e_same (S := S ++ [.dct (encB bk), .lst (tl' ++ [.tuple [.tuple [], .str "fun"]]), .lst tl', .lst tl', q3]) (a := S.length + 2) (b := S.length + 3) (xs := tl') (by simp) (by simp) shl
  have dq := hb.self
  have ds := hb.dsh
  have z3 : (Th.n1 .first (.n3 .pair (.n0 .nat) (.n0 .zero) (.n0 .zero))).e = .tuple [.str "first", .tuple [.str "pair", .tuple [.str "nat"], .tuple [.str "zero"], .tuple [.str "zero"]]] := rfl
  have i3 : ((3 : Nat) : Int) = 3 := rfl
  rw [z3, i3] at c3
  refine ⟨S ++ [.dct (encB bk), .lst (tl' ++ [.tuple [.tuple [], .str "fun"]]), .lst tl', .lst tl', q3], ?_⟩
  unfold m_law_v7 En23 duV
  simp only [Sms.dr]
  simp at c1 s1 c2 c3 s2 e2
  simp [hnw, hde, h2, hi2, c1, s1, c2, c3, s2, e2, dq, ds, tll]
theorem law23 {ns : List Int} (hsm : SSame (cl ksm)) (hto : STold8 (cl kto)) (hd : SDraw2 (cl kd)) (hdu : SDueN (cl kdu)) (hch : SChain (cl kch)) (hsu : SSum (cl ksu)) (hun : SUnder (cl kun)) (hme : SMeas (cl kme) 50) (hth : SThing (cl kth) 5) (hbo : SBook (cl kbo)) (hpo : SPool2 (cl kpo)) :
    runD cl 1 12 (m_law_v7 ksm kto kd kdu kch ksu kun kme kth kbo kpo) [.p (.list (ns.map .int))] [] = .ok (.p (.bool true)) [] := by
  refine Eq.trans (if_pos rfl) ?_
  show endV 0 (exss cl (m_law_v7 ksm kto kd kdu kch ksu kun kme kth kbo kpo) [some (.p (.list (ns.map .int))), none, none, none, none, none, none, none, none, none, none, none] []) = _
  obtain ⟨ws, w3, wl, ew⟩ := hpo ns [tp 0] 0 0 rfl (by decide)
  have T1 : Tape [tp (0 + 4), .lst (ws.map .str)] 0 1 (0 + 4) ws := ⟨rfl, rfl, by decide, w3, wl⟩
  have ho : ∀ w ∈ ws, PyData.strOk w = true := fun w hw => (wl w hw).2
  obtain ⟨bk, kb, lb, ob, bl, eb⟩ := hbo ns _ 0 1 _ ws T1 (by decide)
  have eb' : cl kbo [.p (.list (ns.map .int)), .loc 0, .loc 1] [tp (0 + 4), .lst (ws.map .str)] = .ok (.loc 2) [tp kb, .lst (ws.map .str), .dct (encB bk)] := eb
  have T2 : Tape [tp kb, .lst (ws.map .str), .dct (encB bk)] 0 1 kb ws := ⟨rfl, rfl, by decide, w3, wl⟩
  obtain ⟨r2, p0, p1, er2⟩ := hd ns _ 0 _ 5 T2.t (by omega) (by decide)
  have er2' : cl kd [.p (.list (ns.map .int)), .loc 0, .p (.int 5)] [tp kb, .lst (ws.map .str), .dct (encB bk)] = .ok (.p (.int r2)) [tp (kb + 1), .lst (ws.map .str), .dct (encB bk)] := er2
  have T3 : Tape [tp (kb + 1), .lst (ws.map .str), .dct (encB bk), .lst [.int 0, .int 3, .int 90]] 0 1 (kb + 1) ws := ⟨rfl, rfl, by decide, w3, wl⟩
  obtain ⟨r, r0, r1, er⟩ := hd ns _ 0 _ 3 T3.t (by omega) (by decide)
  have er' : cl kd [.p (.list (ns.map .int)), .loc 0, .p (.int 3)] [tp (kb + 1), .lst (ws.map .str), .dct (encB bk), .lst [.int 0, .int 3, .int 90]] = .ok (.p (.int r)) [tp (kb + 1 + 1), .lst (ws.map .str), .dct (encB bk), .lst [.int 0, .int 3, .int 90]] := er
  have near : ∃ near : Int, ixP [PyData.int 0, .int 3, .int 90] r = some (.int near) ∧ 0 ≤ near ∧ near ≤ 90 := by
    have : r = 0 ∨ r = 1 ∨ r = 2 := by omega
    rcases this with rfl | rfl | rfl
    · exact ⟨0, rfl, by decide, by decide⟩
    · exact ⟨3, rfl, by decide, by decide⟩
    · exact ⟨90, rfl, by decide, by decide⟩
  obtain ⟨near, en, n0, n1⟩ := near
  have T4 := T3.set (kb + 1 + 1)
  have nb5 : nb 5 = 13650 := rfl
  obtain ⟨b, t, kt', lt, gt, zt, tt, et⟩ := hth ns _ 0 1 _ ws (1 + r2) near T4 (by omega) n0 (by omega) (by omega)
  have et' : cl kth [.p (.list (ns.map .int)), .loc 0, .p (.int (1 + r2)), .p (.int near), .loc 1] [tp (kb + 1 + 1), .lst (ws.map .str), .dct (encB bk), .lst [.int 0, .int 3, .int 90]] = .ok (.p t.e) [tp kt', .lst (ws.map .str), .dct (encB bk), .lst [.int 0, .int 3, .int 90]] := et
  have dpt := ok_dp _ _ _ gt
  have szt : t.sz ≤ 600 := by unfold Th.tg at tt; omega
  have tv := ok_vs _ _ _ gt
  have ts := ok_so ho _ _ _ gt
  have bg := BkG.of ho ob
  obtain ⟨q, q0, q1, eq⟩ := hd ns [tp kt', .lst (ws.map .str), .dct (encB bk), .lst [.int 0, .int 3, .int 90]] 0 kt' 13 rfl (by omega) (by decide)
  obtain ⟨f, rfl⟩ := Int.eq_ofNat_of_zero_le q0
  have eq' : cl kd [.p (.list (ns.map .int)), .loc 0, .p (.int 13)] [tp kt', .lst (ws.map .str), .dct (encB bk), .lst [.int 0, .int 3, .int 90]] = .ok (.p (.int (f : Int))) [tp (kt' + 1), .lst (ws.map .str), .dct (encB bk), .lst [.int 0, .int 3, .int 90]] := eq
  obtain ⟨f2, k2, lf2, lk2, eA⟩ := z23_A (cl := cl) (ksm := ksm) (kto := kto) (kdu := kdu) (kch := kch) (ksu := ksu) (kun := kun) (kth := kth) (kbo := kbo) (kpo := kpo) (ns := ns) (t := t) (f := f) (k := kt' + 1) (S := [tp (kt' + 1), .lst (ws.map .str), .dct (encB bk), .lst [.int 0, .int 3, .int 90]]) hd hme rfl (by omega) tv (by omega) (by omega)
  obtain ⟨t3, k3, lk3, t3v, t3s, t3g, eU⟩ := hun ns t [tp k2, .lst (ws.map .str), .dct (encB bk), .lst [.int 0, .int 3, .int 90]] 0 k2 rfl (by omega) tv ts tt
  have d3 : t3.dp ≤ 40 := by unfold Th.tg at t3g; omega
  have s3 : t3.sz ≤ 600 := by unfold Th.tg at t3g; omega
  obtain ⟨t4, f4, k4, lf4, lk4, t4v, t4s, z4, d4, eC⟩ := z23_C (cl := cl) (ksm := ksm) (kto := kto) (kdu := kdu) (kch := kch) (kun := kun) (kme := kme) (kth := kth) (kbo := kbo) (kpo := kpo) (ns := ns) (t := t3) (f := f2) (k := k3) (S := [tp k3, .lst (ws.map .str), .dct (encB bk), .lst [.int 0, .int 3, .int 90]]) hd hsu rfl (by omega) t3v t3s s3 d3 lf2
  obtain ⟨t5, f5, k5, bk5, w5, lf5, lk5, t5v, t5s, z5, d5, b5, eD⟩ := z23_D (cl := cl) (ksm := ksm) (kto := kto) (kdu := kdu) (ksu := ksu) (kun := kun) (kme := kme) (kth := kth) (kbo := kbo) (kpo := kpo) (ns := ns) (t := t4) (f := f4) (k := k4) (bk := bk) (S := [tp k4, .lst (ws.map .str), .dct (encB bk), .lst [.int 0, .int 3, .int 90]]) hd hch rfl rfl bg (by omega) (by omega) t4v t4s z4 d4 lf4
  have eE := hdu t5 f5 [tp k5, .lst (ws.map .str), .dct (encB bk5), .lst [.int 0, .int 3, .int 90]] 2 bk5 rfl b5 z5 d5 (gd_of t5 t5s t5v) (by omega)
  obtain ⟨f6, D6, S6, lf6, h62, h6D, eF⟩ := z23_F (cl := cl) (ksm := ksm) (kto := kto) (kch := kch) (ksu := ksu) (kun := kun) (kme := kme) (kth := kth) (kbo := kbo) (kpo := kpo) (ns := ns) (t := t5) (f := f5) (k := k5) (D := 4) (w := w5) (bk := bk5) (S := [tp k5, .lst (ws.map .str), .dct (encB bk5), .lst [.int 0, .int 3, .int 90], .lst ((nrL (runT bk5 f5 t5 [])).map encR)]) hd hdu rfl rfl rfl (by decide) b5 (by omega) t5v t5s z5 d5 lf5
  obtain ⟨S7, e7⟩ := z23_fin (cl := cl) (ksm := ksm) (kto := kto) (kd := kd) (kdu := kdu) (kch := kch) (ksu := ksu) (kun := kun) (kme := kme) (kth := kth) (kbo := kbo) (kpo := kpo) (ns := ns) (t := t5) (f := f6) (D := D6) (w := w5) (bk := bk5) (S := S6) hto hsm h62 h6D b5 t5v t5s z5 d5 lf6
  unfold m_law_v7
  rw [asg_nx (v := .loc 0) (S' := [tp 0]) (by simp [tp])]
  dsimp only [List.set]
  rw [asg_nx (v := .loc 1) (S' := [tp (0 + 4), .lst (ws.map .str)]) (by simp [ew])]
  dsimp only [List.set]
  rw [asg_nx (v := .loc 2) (S' := [tp kb, .lst (ws.map .str), .dct (encB bk)]) (by simp; simp at eb'; exact eb')]
  dsimp only [List.set]
  rw [asg_nx (v := .p t.e) (S' := [tp kt', .lst (ws.map .str), .dct (encB bk), .lst [.int 0, .int 3, .int 90]]) (by simp [er2', er', en, et'])]
  dsimp only [List.set]
  rw [asg_nx (v := .p (.int (f : Int))) (S' := [tp (kt' + 1), .lst (ws.map .str), .dct (encB bk), .lst [.int 0, .int 3, .int 90]]) (by simp [eq'])]
  dsimp only [List.set]
  refine (congrArg (endV 0) (nx_nx eA)).trans ?_
  refine (congrArg (endV 0) (asg_nx (v := .p t3.e) (S' := [tp k3, .lst (ws.map .str), .dct (encB bk), .lst [.int 0, .int 3, .int 90]]) (by simp; exact eU))).trans ?_
  refine (congrArg (endV 0) (nx_nx eC)).trans ?_
  refine (congrArg (endV 0) (nx_nx eD)).trans ?_
  refine (congrArg (endV 0) (asg_nx (v := duV (runT bk5 f5 t5 []) 4) (S' := [tp k5, .lst (ws.map .str), .dct (encB bk5), .lst [.int 0, .int 3, .int 90], .lst ((nrL (runT bk5 f5 t5 [])).map encR)]) (by simp; exact eE))).trans ?_
  refine (congrArg (endV 0) (nx_nx eF)).trans ?_
  refine (congrArg (endV 0) e7).trans ?_
  simp
end
namespace k23
theorem tt : TapeT T 22 23 24 25 26 27 28 29 30 31 32 33 := ⟨r22, r23, r24, r25, r26, r27, r28, r29, r30, r31, r32, r33⟩
theorem pt : ProgT T 1 2 3 0 1 2 3 4 5 6 7 8 9 10 11 12 13 14 15 16 17 18 19 := ⟨r0, r1, r2, r3, r4, r5, r6, r7, r8, r9, r10, r11, r12, r13, r14, r15, r16, r17, r18, r19⟩
theorem eWd1 (n : Nat) : SWd (callE T (n + 1) 41) 1 "great" := by rw [r41]; exact word2_ok (k := 0) (by decide) ⟨rfl, by decide⟩ ⟨rfl, by decide⟩ ⟨rfl, by decide⟩ ⟨rfl, by decide⟩ ⟨rfl, by decide⟩ ⟨rfl, by decide⟩
theorem eWd4 (n : Nat) : SWd (callE T (n + 1) 41) 4 "dry" := by rw [r41]; exact word2_ok (k := 3) (by decide) ⟨rfl, by decide⟩ ⟨rfl, by decide⟩ ⟨rfl, by decide⟩ ⟨rfl, by decide⟩ ⟨rfl, by decide⟩ ⟨rfl, by decide⟩
theorem law_run (ns : List Int) : ∃ S, callE T 230 49 [.p (.list (ns.map .int))] [] = .ok (.p (.bool true)) S := by
  have e : callE T 230 49 = runD (callE T 229) 1 12 d49.m := r49 229
  rw [e]
  have hsm : SSame (callE T 229 48) := by rw [show (229 : Nat) = 228 + 1 from rfl, r48]; exact same_ok
  have hto : STold8 (callE T 229 47) := by
    rw [show (229 : Nat) = 228 + 1 from rfl, r47]
    exact told8_ok (pt.eNo r20 r21 228 (by decide)) (eWd1 227) (eWd4 227) rfl rfl
  have hdu : SDueN (callE T 229 46) := by
    rw [show (229 : Nat) = 228 + 1 from rfl, r46]
    exact dueN_ok (eRows r39 r34 r40 228 (by decide)) (pt.eS 228 (by decide)) rfl
  have hsu : SSum (callE T 229 45) := by rw [show (229 : Nat) = 228 + 1 from rfl, r45]; exact sum_ok (tt.eDr 228 (by decide))
  have hun : SUnder (callE T 229 44) := by
    rw [show (229 : Nat) = 228 + 1 from rfl, r44]
    exact under_ok (tt.eDr 228 (by decide)) (by rw [show (228 : Nat) = 227 + 1 from rfl, r43]; exact wrapped_ok (tt.eDr 227 (by decide))) (eMeas r34 r35 50 228 (by decide)) (eGreat2 r34 r35 r36 90 228 (by decide))
  exact ⟨[], law23 hsm hto (tt.eDr 229 (by decide)) hdu (eChain r42 229 (by decide)) hsu hun (eMeas r34 r35 50 229 (by decide)) (tt.eTh r34 r35 r36 r37 5 229 (by decide)) (tt.eBk r38 229 (by decide)) (tt.ePo 229 (by decide))⟩
end k23
end Kp

set_option Elab.async false
set_option linter.all false
set_option maxRecDepth 100000
set_option maxHeartbeats 0
/-! the end of the law k23_normal. -/
namespace Kp.k23
open PySem PySem.Spec PyProof.Rows L2
def fn : List He.DefD := fnOfD dd
def fa : List He.Fa := faOfD dd fre cst cls exm
abbrev R : PySem.W.OpenRow := PySem.W.OpenLaw.row PySem.Challenge.rw_keeper_k23_normal
abbrev hk : PySem.W.Hook := He.hookX 4 fa fn [] [] (isxB cls ht)
def ob (s : PySem.W.SharedT) : He.AlX := He.obsX 4 fa fn [] [] (isxB cls ht) (HandSHeadRun.getT s)
theorem ob_eq (s : PySem.W.SharedT) : ob s = hk.obs s.abs := He.obsX_eq (HandSHeadRun.getT_eq s)
def loose : List Str := (["__name__", "KeeperError", "Great", "NoPlace", "NoStep", "Dry", "NoVariable", "NoName", "NotAll", "NotSome", "NotSame", "Unlike", "NoText", "NoWord", "TwiceTold", "NotClosed", "MOST_KNOTS", "DEEPEST", "GREATEST", "kids_of", "binds_of", "made_plain", "size_of", "depth_of", "greatest_of", "bounded", "with_kids", "kid_at", "at_place", "changed_at"] : List Str) ++ (["with_at", "noted", "moved", "placed", "put_in", "rule_of", "one_more", "turned", "stepped", "first_step", "normal", "_law_draw", "_law_named", "_law_pool", "_law_leaf", "_law_kind", "_law_fun", "_law_pair", "_law_like", "_law_number", "_law_parted", "_law_still", "_law_term", "_law_kids", "_law_measured", "_law_great", "_law_thing", "_law_book", "_law_rule", "_law_rows"] : List Str) ++ (["_law_word", "_law_chain", "_law_wrapped", "_law_under", "_law_sum", "_law_due", "_law_told", "_law_same"] : List Str)
theorem run (w : World) : HandSHeadRun.RunEq R (PySem.W.view R.prog [74]) hk ob 20000 loose w := by
  intro os
  kernel_rfl
theorem facts {P : Program} {w : World} {K : PySem.W.Frag} {h : Heap} {mg : Str → Option Value} {f : Addr} (X : K.In h) (G : h.Ns mainGlobals mg) (hfa : mg ("law" : Str) = some (.ref f)) (c : He.SaysD fa fn K) (e : isxB cls ht K = true) :
    ∃ fd : FuncData, (∀ (s : Shared) (v : Value), BindsTo s fd ⟨[v], []⟩ [(("_law_script" : Str), v)]) ∧ ∀ base : Heap, K.In base → base.Ns mainGlobals mg → FnOk P w K mg base (L2N.CX P w) 230 f fd [("_law_script" : Str)] (@spE xc0 K (cvOf K cls) (callE T 230) 49) := by
  obtain ⟨fd, F⟩ := c.def_ 49 (d := DD.fn d49) rfl
  have e1 := hfa.symm.trans (He.glo_ok X G (x := ("law" : Str)) (fact_mem c (show He.Fa.glo (("law" : Str)) ∈ fa from List.mem_of_getElem? (i := 49) rfl)))
  cases e1
  have b := FunD.bindsA (ps := [("_law_script" : Str)]) F fun _ _ _ _ _ _ us hl => match us, hl with | [_], _ => rfl
  refine ⟨fd, fun s v => b s [v] rfl, fun base hK hb => ?_⟩
  exact def_ok (n := 229) (facts_ok X G c e) F s49.ok (all_ok (facts_ok X G c e) (defs_ok X G c stc) 229)
end Kp.k23
open PySem PySem.W PySem.Calls PyProof.Rows
theorem Kp.k23.ends (hE : ∀ ns : List Int, ns.length ≤ 63 → ∃ S, Kp.callE Kp.k23.T 230 49 [.p (.list (ns.map PyData.int))] [] = .ok (.p (.bool true)) S) : PySem.Challenge.rw_keeper_k23_normal.Holds := by
  w_on; o_law
  refine HandSHeadRun.head_any (r := OpenLaw.row PySem.Challenge.rw_keeper_k23_normal) (q := view (OpenLaw.row PySem.Challenge.rw_keeper_k23_normal).prog [74]) (H := Kp.k23.hk) (ob := Kp.k23.ob) (M := 20000) (loose := Kp.k23.loose) (d := HandSHeadRun.topDef (OpenLaw.row PySem.Challenge.rw_keeper_k23_normal).prog 74) (kwd := []) Kp.k23.ob_eq
    (by kernel_rfl) (fun s => by kernel_rfl) Kp.k23.run (by kernel_rfl) (by kernel_rfl) (by kernel_rfl) (by rfl) (by first | assumption | decide +kernel) (by decide +kernel) ⟨rfl, rfl, rfl, rfl, rfl, by decide +kernel⟩ ?hw ?hc
  case hw => w_witness2
  case hc =>
    refine Kp.walk_w (l := PySem.Challenge.rw_keeper_k23_normal) (n := 63) (k := 230) (x := "_law_script") rfl (by decide) (by kernel_rfl) ⟨rfl, by decide, by decide⟩ ?F
    case F =>
      intro w mg fa h Y G hmg0
      obtain ⟨K, KX, c⟩ := Y
      have hmg : mg ("law" : PySem.Str) = some (.ref fa) := by
        have e : (HandSHeadRun.topDef (OpenLaw.row PySem.Challenge.rw_keeper_k23_normal).prog 74).name = ("law" : PySem.Str) := by kernel_rfl
        rw [← e]
        exact hmg0
      obtain ⟨fd, hb, hF⟩ := Kp.k23.facts (P := (PySem.Challenge.rw_keeper_k23_normal).prog) (w := w) KX G hmg c.t.d c.more
      exact ⟨K, fd, _, KX, hb, fun H a ns hl hO hS => (hE ns hl).elim fun S hr => Kp.law_sp hO hS hr, hF⟩


theorem PySem.Challenge.cw_keeper_k23_normal_holds : PySem.Challenge.rw_keeper_k23_normal.Holds := by
  exact Kp.k23.ends fun ns _ => Kp.k23.law_run ns
