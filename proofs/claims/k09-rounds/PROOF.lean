import PyProof.Rows.All
import Wide.All
import OpenK.AllK
import Wide.FinOn
import HandS.ForMost
import HandS.ForExc
import KE.DataEq
import KE.SortData
import KE.DataMinMax
import KE.DataAny
import KE.DataCmp
import KE.KDictKeyed
import KE.GoesDict
import HandS.TupAny
import HandS.CallSlots
import HandS.Ends
import PyProof.ReprReads
import HandS.RaiseMore
import HandS.TupSets
import HandS.Style
import HandS.DictTup
import HandS.Exc
import HandS.ExcOwn
import KE.KExcSuper
import HandS.TryMany
import HandS.SetFor
import HandS.Strs
import HandS.Star
import HandS.Conv
import PyProof.DictTable
import KE.KEqDict
import PyProof.ReprRoads
import HandS.More
import PySem.Challenge.RW_waysflooded_k09_main_rounds_that_never_l
set_option Elab.async false
set_option linter.all false
set_option maxRecDepth 100000
/-! DP, part 1: frozen data in an abstract heap, slots, worlds. -/
namespace DP
open PySem PySem.Spec PyProof.Rows L2

abbrev D := PyData

/-! ### keys -/
mutual
def keyD : D → Option NestedKey
  | .none => some .none
  | .bool b => some (.num (if b = true then 1 else 0))
  | .int i => some (.num i)
  | .str x => some (.text x)
  | .tuple ds => (keysD ds).map .tup
  | .list _ => none
  | .dict _ => none
def keysD : List D → Option (List NestedKey)
  | [] => some []
  | d :: ds => (keyD d).bind fun k => (keysD ds).map fun r => k :: r
end

/-- the dict object at a, entry by entry -/
def dicO (a : Addr) (es : Array DictEntry) (ep : Nat) : HO := .ext fun h => (a == sysModules) = false ∧ es.size ≤ sizeLine ∧ h.get? a = some { cls := .type "dict", data := .dict es ep }

section
variable (K : PySem.W.Frag) (w : World) (W : Hp)
mutual
/-- v is the data d, all of it in the frozen world W (or written) -/
def Rep : D → V → Prop
  | .none, v => v = .non
  | .bool b, v => v = .bl b
  | .int i, v => v = .int i
  | .str x, v => v = .str x
  | .tuple ds, v => ∃ a vs, v = .ref a ∧ SqT K W a vs ∧ RepL ds vs
  | .list ds, v => ∃ a vs, v = .ref a ∧ W a = some (.lst vs) ∧ RepL ds vs
  | .dict kvs, v => ∃ a es ep, v = .ref a ∧ W a = some (dicO a es ep) ∧ RepKV kvs es.toList ∧ (kvs.map fun p => keyD p.1).Nodup
def RepL : List D → List V → Prop
  | [], vs => vs = []
  | d :: ds, vs => ∃ v r, vs = v :: r ∧ Rep d v ∧ RepL ds r
def RepKV : List (D × D) → List DictEntry → Prop
  | [], es => es = []
  | (k, d) :: r, es => ∃ e q, es = e :: q ∧ (∃ kk, keyD k = some kk ∧ kk.depth ≤ 8 ∧ e.hash = kk.hash w) ∧ (∃ x, RelV x e.key ∧ Rep k x) ∧ (∃ y, RelV y e.val ∧ Rep d y) ∧ RepKV r q
end
end

section
variable {K : PySem.W.Frag} {w : World} {W W' H H' : Hp}
theorem Same.sqt {a : Addr} {xs : List V} (e : Same W W') (h : SqT K W a xs) : SqT K W' a xs := by
  rcases h with (q | ⟨o, q⟩) | q
  · exact .inl (.inl (e _ _ q))
  · exact .inl (.inr ⟨o, e _ _ q⟩)
  · exact .inr q
theorem Same.sql {a : Addr} {xs : List V} (e : Same W W') (h : SqL K W a xs) : SqL K W' a xs := by
  rcases h with (q | ⟨o, q⟩) | q
  · exact .inl (.inl (e _ _ q))
  · exact .inl (.inr ⟨o, e _ _ q⟩)
  · exact .inr q
theorem Same.rd {a : Addr} {o : HO} (e : Same W W') (h : Rd W a o) : Rd W' a o := by
  rcases h with q | ⟨u, q⟩
  · exact .inl (e _ _ q)
  · exact .inr ⟨u, e _ _ q⟩
mutual
theorem Rep.mono (e : Same W W') : ∀ (d : D) (v : V), Rep K w W d v → Rep K w W' d v
  | .none, _, h => h
  | .bool _, _, h => h
  | .int _, _, h => h
  | .str _, _, h => h
  | .tuple ds, _, h => by
    simp only [Rep] at h ⊢
    obtain ⟨a, vs, e1, e2, e3⟩ := h
    exact ⟨a, vs, e1, Same.sqt e e2, RepL.mono e ds vs e3⟩
  | .list ds, _, h => by
    simp only [Rep] at h ⊢
    obtain ⟨a, vs, e1, e2, e3⟩ := h
    exact ⟨a, vs, e1, e _ _ e2, RepL.mono e ds vs e3⟩
  | .dict kvs, _, h => by
    simp only [Rep] at h ⊢
    obtain ⟨a, es, ep, e1, e2, e3, e4⟩ := h
    exact ⟨a, es, ep, e1, e _ _ e2, RepKV.mono e kvs es.toList e3, e4⟩
theorem RepL.mono (e : Same W W') : ∀ (ds : List D) (vs : List V), RepL K w W ds vs → RepL K w W' ds vs
  | [], _, h => h
  | d :: ds, _, h => by
    simp only [RepL] at h ⊢
    obtain ⟨v, r, e1, e2, e3⟩ := h
    exact ⟨v, r, e1, Rep.mono e d v e2, RepL.mono e ds r e3⟩
theorem RepKV.mono (e : Same W W') : ∀ (kvs : List (D × D)) (es : List DictEntry), RepKV K w W kvs es → RepKV K w W' kvs es
  | [], _, h => h
  | (k, d) :: r, _, h => by
    simp only [RepKV] at h ⊢
    obtain ⟨en, q, e1, e2, ⟨x, x1, x2⟩, ⟨y, y1, y2⟩, e5⟩ := h
    exact ⟨en, q, e1, e2, ⟨x, x1, Rep.mono e k x x2⟩, ⟨y, y1, Rep.mono e d y y2⟩, RepKV.mono e r q e5⟩
end

theorem RepL.len : ∀ {ds : List D} {vs : List V}, RepL K w W ds vs → vs.length = ds.length
  | [], _, h => by simp only [RepL] at h; subst h; rfl
  | d :: ds, _, h => by
    simp only [RepL] at h
    obtain ⟨v, r, rfl, _, h3⟩ := h
    simp [RepL.len h3]
theorem RepL.nil : RepL K w W [] [] := by simp [RepL]
theorem RepL.cons {d : D} {ds : List D} {v : V} {vs : List V} (h : Rep K w W d v) (t : RepL K w W ds vs) : RepL K w W (d :: ds) (v :: vs) := by
  simp only [RepL]; exact ⟨v, vs, rfl, h, t⟩
theorem RepL.append : ∀ {ds es : List D} {vs ws : List V}, RepL K w W ds vs → RepL K w W es ws → RepL K w W (ds ++ es) (vs ++ ws)
  | [], _, _, _, h, t => by simp only [RepL] at h; subst h; exact t
  | d :: ds, _, _, _, h, t => by
    simp only [RepL] at h
    obtain ⟨v, r, rfl, h2, h3⟩ := h
    exact RepL.cons h2 (RepL.append h3 t)
theorem RepL.at : ∀ {ds : List D} {vs : List V} {i : Nat} {d : D}, RepL K w W ds vs → ds[i]? = some d → ∃ v, vs[i]? = some v ∧ Rep K w W d v
  | [], _, _, _, _, e => by simp at e
  | d :: ds, _, 0, _, h, e => by
    simp only [RepL] at h
    obtain ⟨v, r, rfl, h2, h3⟩ := h
    simp only [List.getElem?_cons_zero, Option.some.injEq] at e
    subst e
    exact ⟨v, rfl, h2⟩
  | d :: ds, _, i + 1, d', h, e => by
    simp only [RepL] at h
    obtain ⟨v, r, rfl, h2, h3⟩ := h
    obtain ⟨x, h4, h5⟩ := RepL.at (i := i) h3 (by simpa using e)
    exact ⟨x, by simpa using h4, h5⟩
theorem RepL.at' : ∀ {ds : List D} {vs : List V} {i : Nat} {v : V}, RepL K w W ds vs → vs[i]? = some v → ∃ d, ds[i]? = some d ∧ Rep K w W d v
  | [], _, _, _, h, e => by simp only [RepL] at h; subst h; simp at e
  | d :: ds, _, 0, _, h, e => by
    simp only [RepL] at h
    obtain ⟨v, r, rfl, h2, h3⟩ := h
    simp only [List.getElem?_cons_zero, Option.some.injEq] at e
    subst e
    exact ⟨d, rfl, h2⟩
  | d :: ds, _, i + 1, d', h, e => by
    simp only [RepL] at h
    obtain ⟨v, r, rfl, h2, h3⟩ := h
    obtain ⟨x, h4, h5⟩ := RepL.at' (i := i) h3 (by simpa using e)
    exact ⟨x, by simpa using h4, h5⟩
theorem RepL.take : ∀ {ds : List D} {vs : List V} (n : Nat), RepL K w W ds vs → RepL K w W (ds.take n) (vs.take n)
  | _, _, 0, _ => RepL.nil
  | [], _, n + 1, h => by simp only [RepL] at h; subst h; exact RepL.nil
  | d :: ds, _, n + 1, h => by
    simp only [RepL] at h
    obtain ⟨v, r, rfl, h2, h3⟩ := h
    exact RepL.cons h2 (RepL.take n h3)
theorem RepL.drop : ∀ {ds : List D} {vs : List V} (n : Nat), RepL K w W ds vs → RepL K w W (ds.drop n) (vs.drop n)
  | _, _, 0, h => h
  | [], _, n + 1, h => by simp only [RepL] at h; subst h; exact RepL.nil
  | d :: ds, _, n + 1, h => by
    simp only [RepL] at h
    obtain ⟨v, r, rfl, h2, h3⟩ := h
    exact RepL.drop n h3
theorem RepL.set : ∀ {ds : List D} {vs : List V} (i : Nat) {d : D} {v : V}, RepL K w W ds vs → Rep K w W d v → RepL K w W (ds.set i d) (vs.set i v)
  | [], _, _, _, _, h, _ => by simp only [RepL] at h; subst h; exact RepL.nil
  | _ :: ds, _, 0, _, _, h, q => by
    simp only [RepL] at h
    obtain ⟨v, r, rfl, h2, h3⟩ := h
    exact RepL.cons q h3
  | _ :: ds, _, i + 1, _, _, h, q => by
    simp only [RepL] at h
    obtain ⟨v, r, rfl, h2, h3⟩ := h
    exact RepL.cons h2 (RepL.set i h3 q)
theorem RepL.reverse : ∀ {ds : List D} {vs : List V}, RepL K w W ds vs → RepL K w W ds.reverse vs.reverse
  | [], _, h => by simp only [RepL] at h; subst h; exact RepL.nil
  | d :: ds, _, h => by
    simp only [RepL] at h
    obtain ⟨v, r, rfl, h2, h3⟩ := h
    rw [List.reverse_cons, List.reverse_cons]
    exact RepL.append (RepL.reverse h3) (RepL.cons h2 RepL.nil)

/-! ### what a frozen datum reads as -/
variable {X : Cx} {pins : List (Addr × Obj)} {σ : L2.St} {s : Shared}
mutual
theorem Rep.reads (I : Inv X pins σ H s) (e : Same W H) : ∀ (d : D) (v : V) (u : Value), Rep X.K X.w W d v → RelV v u → ∃ as, Reads s.heap u d as
  | .none, _, _, h, r => by simp only [Rep] at h; subst h; cases r; exact ⟨[], .none⟩
  | .bool b, _, _, h, r => by simp only [Rep] at h; subst h; cases r; exact ⟨[], .bool b⟩
  | .int i, _, _, h, r => by simp only [Rep] at h; subst h; obtain ⟨t, rfl⟩ := r; exact ⟨[], .int i t⟩
  | .str x, _, _, h, r => by simp only [Rep] at h; subst h; obtain ⟨t, rfl⟩ := r; exact ⟨[], .str x t⟩
  | .tuple ds, _, _, h, r => by
    simp only [Rep] at h
    obtain ⟨a, vs, rfl, q, l⟩ := h
    cases r
    obtain ⟨its, rv, ⟨o, e1, e2, n, e3⟩, _⟩ := I.tuple (Same.sqt e q)
    obtain ⟨as, ra⟩ := RepL.reads I e ds vs its l rv
    exact ⟨as, .tuple e1 e2 e3 (by simpa using ra)⟩
  | .list ds, _, _, h, r => by
    simp only [Rep] at h
    obtain ⟨a, vs, rfl, q, l⟩ := h
    cases r
    obtain ⟨its, rv, ⟨o, n, e1, e2, _, e3⟩, _⟩ := I.list (xs := vs) (.of (e _ _ q))
    obtain ⟨as, ra⟩ := RepL.reads I e ds vs its l rv
    exact ⟨_, .list e1 e2 e3 (by simpa using ra)⟩
  | .dict kvs, _, _, h, r => by
    simp only [Rep] at h
    obtain ⟨a, es, ep, rfl, q, l, _⟩ := h
    cases r
    obtain ⟨⟨_, _, e1⟩, _⟩ := I.hok a _ (e _ _ q)
    obtain ⟨as, bs, ra, rb⟩ := RepKV.reads I e kvs es.toList l
    exact ⟨_, .dict e1 rfl rfl ra rb⟩
theorem RepL.reads (I : Inv X pins σ H s) (e : Same W H) : ∀ (ds : List D) (vs : List V) (us : List Value), RepL X.K X.w W ds vs → Vals vs us → ∃ as, ReadsAll s.heap us ds as
  | [], _, _, h, r => by simp only [RepL] at h; subst h; cases r; exact ⟨[], .nil⟩
  | d :: ds, _, _, h, r => by
    simp only [RepL] at h
    obtain ⟨v, q, rfl, h1, h2⟩ := h
    cases r with
    | cons r1 r2 =>
      obtain ⟨as, ra⟩ := Rep.reads I e d v _ h1 r1
      obtain ⟨bs, rb⟩ := RepL.reads I e ds q _ h2 r2
      exact ⟨_, .cons ra rb⟩
theorem RepKV.reads (I : Inv X pins σ H s) (e : Same W H) : ∀ (kvs : List (D × D)) (es : List DictEntry), RepKV X.K X.w W kvs es → ∃ as bs, ReadsAll s.heap (es.map (·.key)) (kvs.map (·.1)) as ∧ ReadsAll s.heap (es.map (·.val)) (kvs.map (·.2)) bs
  | [], _, h => by simp only [RepKV] at h; subst h; exact ⟨[], [], .nil, .nil⟩
  | (k, d) :: r, _, h => by
    simp only [RepKV] at h
    obtain ⟨en, q, rfl, _, ⟨x, x1, x2⟩, ⟨y, y1, y2⟩, h5⟩ := h
    obtain ⟨a1, r1⟩ := Rep.reads I e k x _ x2 x1
    obtain ⟨a2, r2⟩ := Rep.reads I e d y _ y2 y1
    obtain ⟨as, bs, ra, rb⟩ := RepKV.reads I e r q h5
    exact ⟨_, _, .cons r1 ra, .cons r2 rb⟩
end
end
end DP
set_option Elab.async false
set_option linter.all false
set_option maxRecDepth 100000
/-! DP, part 2: slots, worlds and what changes them; outcomes; the readings tX, tT, tA, tS. -/
namespace DP
open PySem PySem.Spec PyProof.Rows L2

/-- a slot: nothing, frozen data, or a container of one's own (t: which in-out parameter it is) -/
inductive Sl where
  | no
  | fz (d : D)
  | ow (t : Option Nat) (c : D)
  /-- the law's script -/
  | sc (ns : List Int)

abbrev Ev := List Sl

/-- an outcome: a value; an exception of the class named c with d as its at, and the slots then; nothing is known -/
inductive Out (α : Type) where
  | ok (a : α)
  | exc (c : Str) (d : D) (e : Ev)
  | bad
def Out.bind {α β : Type} : Out α → (α → Out β) → Out β
  | .ok a, f => f a
  | .exc c d e, _ => .exc c d e
  | .bad, _ => .bad
@[simp] theorem Out.bind_ok {α β : Type} (a : α) (f : α → Out β) : Out.bind (.ok a) f = f a := rfl
@[simp] theorem Out.bind_exc {α β : Type} (c : Str) (d : D) (e : Ev) (f : α → Out β) : Out.bind (.exc c d e) f = .exc c d e := rfl
@[simp] theorem Out.bind_bad {α β : Type} (f : α → Out β) : Out.bind .bad f = .bad := rfl

section
variable (K : PySem.W.Frag) (w : World)
/-- a container of one's own at p -/
def Own (W H : Hp) : D → Addr → Prop
  | .list ds, p => ∃ vs, H p = some (.lst vs) ∧ RepL K w W ds vs
  | .dict kvs, p => ∃ es ep, H p = some (dicO p es ep) ∧ RepKV K w W kvs es.toList ∧ (kvs.map fun q => keyD q.1).Nodup
  | _, _ => False
/-- a slot s with the value v; l: the addresses that are its own -/
def SlR (ρ : Nat → Addr) (W H : Hp) : Sl → Option V → List Addr → Prop
  | .no, _, l => l = []
  | .fz d, v, l => l = [] ∧ ∃ x, v = some x ∧ Rep K w W d x
  | .sc ns, v, l => l = [] ∧ ∃ a, v = some (.ref a) ∧ SqL K W a (ns.map V.int)
  | .ow t c, v, l => ∃ p, l = [p] ∧ v = some (.ref p) ∧ W p = none ∧ Own K w W H c p ∧ ∀ j, t = some j → ρ j = p
/-- the state's picture: the frozen world W within H, the slots, the addresses that are one's own -/
structure SR (ρ : Nat → Addr) (W H : Hp) (env : Ev) (σ : L2.St) (A : List (List Addr)) : Prop where
  sub : Same W H
  le : env.length = σ.length
  la : A.length = σ.length
  slot : ∀ (i : Nat) s v l, env[i]? = some s → σ[i]? = some v → A[i]? = some l → SlR K w ρ W H s v l
  inj : ∀ (i j : Nat) l m p, A[i]? = some l → A[j]? = some m → p ∈ l → p ∈ m → i = j
end
def ownd (A : List (List Addr)) (p : Addr) : Prop := ∃ (i : Nat) (l : List Addr), A[i]? = some l ∧ p ∈ l
/-- what may have changed: new things, and one's own -/
structure Fr (W H : Hp) (P : Addr → Prop) (W' H' : Hp) (P' : Addr → Prop) : Prop where
  ext : Same W W'
  keep : ∀ p o, H p = some o → ¬ P p → H' p = some o
  new : ∀ p, W' p ≠ none → W p = none → P p ∨ H p = none
  own : ∀ p, P' p → P p ∨ H p = none
theorem Fr.refl (W H : Hp) (P : Addr → Prop) : Fr W H P W H P := ⟨Same.refl _, fun _ _ h _ => h, fun _ h1 h2 => absurd h2 h1, fun _ h => .inl h⟩
theorem Fr.trans {W H W1 H1 W2 H2 : Hp} {P P1 P2 : Addr → Prop} (a : Fr W H P W1 H1 P1) (b : Fr W1 H1 P1 W2 H2 P2) : Fr W H P W2 H2 P2 := by
  have back : ∀ p, H1 p = none → P p ∨ H p = none := fun p h => by
    cases q : H p with
    | none => exact .inr rfl
    | some o =>
      by_cases hp : P p
      · exact .inl hp
      · have := a.keep p o q hp
        rw [h] at this; cases this
  refine ⟨a.ext.trans b.ext, fun p o h hp => ?_, fun p h2 h0 => ?_, fun p h => ?_⟩
  · refine b.keep p o (a.keep p o h hp) fun h1 => ?_
    rcases a.own p h1 with z | z
    · exact hp z
    · rw [h] at z; cases z
  · cases q : W1 p with
    | some o => exact a.new p (by rw [q]; exact fun z => nomatch z) h0
    | none =>
      rcases b.new p h2 q with z | z
      · exact a.own p z
      · exact back p z
  · rcases b.own p h with z | z
    · exact a.own p z
    · exact back p z
/-- only new things, frozen or thrown away -/
structure Ex (W H W' H' : Hp) : Prop where
  ext : Same W W'
  keep : Same H H'
  sub : Same W' H'
  new : ∀ p, W' p ≠ none → W p = none → H p = none
theorem Ex.refl {W H : Hp} (e : Same W H) : Ex W H W H := ⟨Same.refl _, Same.refl _, e, fun _ h1 h2 => absurd h2 h1⟩
theorem Ex.trans {W H W1 H1 W2 H2 : Hp} (a : Ex W H W1 H1) (b : Ex W1 H1 W2 H2) : Ex W H W2 H2 := by
  refine ⟨a.ext.trans b.ext, a.keep.trans b.keep, b.sub, fun p h2 h0 => ?_⟩
  cases q : W1 p with
  | some o => exact a.new p (by rw [q]; exact fun z => nomatch z) h0
  | none =>
    have z := b.new p h2 q
    cases q' : H p with
    | none => rfl
    | some o => rw [a.keep p o q'] at z; cases z
theorem Ex.fr {W H W' H' : Hp} (e : Ex W H W' H') (P : Addr → Prop) : Fr W H P W' H' P := ⟨e.ext, fun p o h _ => e.keep p o h, fun p h1 h2 => .inr (e.new p h1 h2), fun _ h => .inl h⟩
/-- one new frozen object -/
theorem Ex.one {W H : Hp} (e : Same W H) {p : Addr} {o : HO} (h : H p = none) : Ex W H (upd W p o) (upd H p o) := by
  have hW : W p = none := e.free h
  refine ⟨fun b u q => ?_, fun b u q => ?_, fun b u q => ?_, fun b h1 h2 => ?_⟩
  · rw [upd_ne (ne_of_none q hW)]; exact q
  · rw [upd_ne (ne_of_none q h)]; exact q
  · by_cases hb : b = p
    · subst hb; rw [upd_same] at q ⊢; exact q
    · rw [upd_ne hb] at q ⊢; exact e _ _ q
  · by_cases hb : b = p
    · subst hb; exact h
    · rw [upd_ne hb] at h1; exact absurd h2 h1
/-- one new object that is not frozen -/
theorem Ex.junk {W H : Hp} (e : Same W H) {p : Addr} {o : HO} (h : H p = none) : Ex W H W (upd H p o) := by
  refine ⟨Same.refl _, fun b u q => ?_, fun b u q => ?_, fun b h1 h2 => absurd h2 h1⟩
  · rw [upd_ne (ne_of_none q h)]; exact q
  · rw [upd_ne (ne_of_none (e _ _ q) h)]; exact e _ _ q
section
variable {K : PySem.W.Frag} {w : World} {ρ : Nat → Addr} {W W' H H' : Hp} {env env' : Ev} {σ : L2.St} {A A' : List (List Addr)}
theorem Own.mono {c : D} {p : Addr} (h : Own K w W H c p) (e : Same W W') (q : H' p = H p) : Own K w W' H' c p := by
  cases c with
  | list ds => obtain ⟨vs, h1, h2⟩ := h; exact ⟨vs, q.trans h1, RepL.mono e ds vs h2⟩
  | dict kvs => obtain ⟨es, ep, h1, h2, h3⟩ := h; exact ⟨es, ep, q.trans h1, RepKV.mono e kvs _ h2, h3⟩
  | _ => exact h.elim
theorem Own.there {c : D} {p : Addr} (h : Own K w W H c p) : ∃ o, H p = some o := by
  cases c with
  | list ds => obtain ⟨vs, h1, h2⟩ := h; exact ⟨_, h1⟩
  | dict kvs => obtain ⟨es, ep, h1, h2⟩ := h; exact ⟨_, h1⟩
  | _ => exact h.elim
/-- a slot's own addresses: not frozen, and there -/
theorem SlR.own {s : Sl} {v : Option V} {l : List Addr} (h : SlR K w ρ W H s v l) {p : Addr} (hp : p ∈ l) : W p = none ∧ ∃ o, H p = some o := by
  cases s with
  | no => have h : l = [] := h; subst h; cases hp
  | fz d => obtain ⟨h, _⟩ := h; subst h; cases hp
  | sc ns => obtain ⟨h, _⟩ := h; subst h; cases hp
  | ow t c =>
    obtain ⟨p', h, _, h4, h5, _⟩ := h
    subst h
    have e : p = p' := by simpa using hp
    subst e
    exact ⟨h4, h5.there⟩
/-- a slot's picture where its own addresses are as they were -/
theorem SlR.keep {s : Sl} {v : Option V} {l : List Addr} (h : SlR K w ρ W H s v l) (e : Same W W') (k : ∀ p ∈ l, H' p = H p ∧ W' p = none) : SlR K w ρ W' H' s v l := by
  cases s with
  | no => exact h
  | fz d => obtain ⟨q1, x, q2, q3⟩ := h; exact ⟨q1, x, q2, Rep.mono e d x q3⟩
  | sc ns => obtain ⟨q1, x, q2, q3⟩ := h; exact ⟨q1, x, q2, Same.sql e q3⟩
  | ow t c =>
    obtain ⟨p, q1, q2, q3, q4, q5⟩ := h
    subst q1
    obtain ⟨k1, k2⟩ := k p (by simp)
    exact ⟨p, rfl, q2, k2, q4.mono e k1, q5⟩
theorem SR.at (S : SR K w ρ W H env σ A) {i : Nat} {s : Sl} (h : env[i]? = some s) : ∃ v l, σ[i]? = some v ∧ A[i]? = some l ∧ SlR K w ρ W H s v l := by
  have h0 : i < env.length := (List.getElem?_eq_some_iff.mp h).1
  have h1 : i < σ.length := by rw [← S.le]; exact h0
  have h2 : i < A.length := by rw [S.la]; exact h1
  exact ⟨_, _, List.getElem?_eq_getElem h1, List.getElem?_eq_getElem h2, S.slot i s _ _ h (List.getElem?_eq_getElem h1) (List.getElem?_eq_getElem h2)⟩
theorem SR.own (S : SR K w ρ W H env σ A) {p : Addr} (h : ownd A p) : W p = none ∧ ∃ o, H p = some o := by
  obtain ⟨i, l, hi, hp⟩ := h
  have hl : i < A.length := (List.getElem?_eq_some_iff.mp hi).1
  have h1 : i < σ.length := by rw [← S.la]; exact hl
  have h2 : i < env.length := by rw [S.le]; exact h1
  exact (S.slot i _ _ _ (List.getElem?_eq_getElem h2) (List.getElem?_eq_getElem h1) hi).own hp
/-- the slots where what is their own is as it was -/
theorem SR.keep (S : SR K w ρ W H env σ A) (e : Same W W') (sub : Same W' H') (k : ∀ p, ownd A p → H' p = H p ∧ W' p = none) : SR K w ρ W' H' env σ A :=
  ⟨sub, S.le, S.la, fun i s v l h1 h2 h3 => (S.slot i s v l h1 h2 h3).keep e fun p hp => k p ⟨i, l, h3, hp⟩, S.inj⟩
/-- the same slots in a bigger world -/
theorem SR.ex (S : SR K w ρ W H env σ A) (e : Ex W H W' H') : SR K w ρ W' H' env σ A := by
  refine S.keep e.ext e.sub fun p hp => ?_
  obtain ⟨h1, o, h2⟩ := S.own hp
  refine ⟨by rw [h2]; exact e.keep _ _ h2, ?_⟩
  cases z : W' p with
  | none => rfl
  | some u =>
    have q := e.new p (by rw [z]; exact fun z => nomatch z) h1
    rw [h2] at q; cases q
/-- what of a caller's picture is left when others have changed things that are not its own -/
theorem SR.fr {P P' : Addr → Prop} (S : SR K w ρ W H env σ A) (e : Fr W H P W' H' P') (sub : Same W' H') (hP : ∀ p, P p → ¬ ownd A p) : SR K w ρ W' H' env σ A := by
  refine S.keep e.ext sub fun p hp => ?_
  obtain ⟨h1, o, h2⟩ := S.own hp
  have np : ¬ P p := fun z => hP p z hp
  refine ⟨by rw [h2]; exact e.keep _ _ h2 np, ?_⟩
  cases z : W' p with
  | none => rfl
  | some u =>
    rcases e.new p (by rw [z]; exact fun z => nomatch z) h1 with y | y
    · exact absurd y np
    · rw [h2] at y; cases y
theorem at_set {α : Type} {l : List α} {i j : Nat} {x y : α} (h : (l.set i x)[j]? = some y) : (j = i ∧ y = x) ∨ (j ≠ i ∧ l[j]? = some y) := by
  by_cases hj : j = i
  · subst hj
    have hl : j < l.length := by
      have := (List.getElem?_eq_some_iff.mp h).1
      simpa using this
    rw [List.getElem?_set_self hl] at h
    cases h
    exact .inl ⟨rfl, rfl⟩
  · rw [List.getElem?_set_ne (Ne.symm hj)] at h
    exact .inr ⟨hj, h⟩
/-- ONE SLOT STORED, the others as they are: m are its own addresses now, none of them another slot's -/
theorem SR.put (S : SR K w ρ W H env σ A) (i : Nat) {s : Sl} {v : Option V} {m : List Addr} (h : SlR K w ρ W H s v m) (hm : ∀ (j : Nat) l p, j ≠ i → A[j]? = some l → p ∈ l → p ∉ m) :
    SR K w ρ W H (env.set i s) (σ.set i v) (A.set i m) := by
  refine ⟨S.sub, by simp [S.le], by simp [S.la], fun j s' v' l h1 h2 h3 => ?_, fun j k l l' p h1 h2 p1 p2 => ?_⟩
  · rcases at_set h1 with ⟨e1, e2⟩ | ⟨e1, e2⟩ <;> rcases at_set h2 with ⟨f1, f2⟩ | ⟨f1, f2⟩ <;> rcases at_set h3 with ⟨g1, g2⟩ | ⟨g1, g2⟩ <;> first | exact absurd e1 f1 | exact absurd f1 e1 | exact absurd e1 g1 | exact absurd g1 e1 | skip
    · subst e2 f2 g2; exact h
    · exact S.slot j _ _ _ e2 f2 g2
  · rcases at_set h1 with ⟨e1, e2⟩ | ⟨e1, e2⟩ <;> rcases at_set h2 with ⟨f1, f2⟩ | ⟨f1, f2⟩
    · rw [e1, f1]
    · subst e2; exact absurd p1 (hm k l' p f1 f2 p2)
    · subst f2; exact absurd p2 (hm j l p e1 e2 p1)
    · exact S.inj j k l l' p e2 f2 p1 p2
theorem ownd_put {i : Nat} {m : List Addr} {p : Addr} (h : ownd (A.set i m) p) : p ∈ m ∨ ownd A p := by
  obtain ⟨j, l, h, hp⟩ := h
  rcases at_set h with ⟨_, e⟩ | ⟨_, e⟩
  · subst e; exact .inl hp
  · exact .inr ⟨j, l, e, hp⟩
/-- .. frozen data -/
theorem SR.setFz (S : SR K w ρ W H env σ A) (i : Nat) {d : D} {x : V} (r : Rep K w W d x) : SR K w ρ W H (env.set i (.fz d)) (σ.set i (some x)) (A.set i []) :=
  S.put i ⟨rfl, x, rfl, r⟩ fun _ _ _ _ _ _ h => nomatch h
theorem SR.setNo (S : SR K w ρ W H env σ A) (i : Nat) (v : Option V) : SR K w ρ W H (env.set i .no) (σ.set i v) (A.set i []) := S.put i rfl fun _ _ _ _ _ _ h => nomatch h
theorem ownd_nil {i : Nat} {p : Addr} (h : ownd (A.set i []) p) : ownd A p := (ownd_put h).resolve_left fun h => nomatch h
end
end DP
set_option Elab.async false
set_option linter.all false
set_option maxRecDepth 100000
/-! DP, part 3: the readings of expressions, tests, argument lists. -/
namespace DP
open PySem PySem.Spec PyProof.Rows L2

abbrev XF := Ev → Out (D × Ev)
abbrev TF := Ev → Out (Bool × Ev)
abbrev AF := Ev → Out (List D × Ev)

section
variable {α β : Type}
/-- what is wanted of an outcome -/
def onG (K : PySem.W.Frag) (w : World) (mg : Str → Option Value) (Wx : WX) (R : Hp → α → β → Prop) (ρ : Nat → Addr) (σ : L2.St) (W H : Hp) (A : List (List Addr)) (o : Out (α × Ev)) (Q : β → Hp → Prop) : Prop :=
  match o with
  | .ok (d, env') => ∀ W' H' A' v, SR K w ρ W' H' env' σ A' → Fr W H (ownd A) W' H' (ownd A') → R W' d v → Q v H'
  | .exc c d env' => ∀ C W' H' A' dx v, mg c = some (.ref C) → SR K w ρ W' H' env' σ A' → Fr W H (ownd A) W' H' (ownd A') → H' dx = some (.xd [("at", v)]) → Rep K w W' d v → Wx (.ref C) (some dx) σ H'
  | .bad => False
/-- the reading of what f reckons -/
def tG (K : PySem.W.Frag) (w : World) (mg : Str → Option Value) (Wx : WX) (R : Hp → α → β → Prop) (f : Ev → Out (α × Ev)) : L2.St → Hp → (β → Hp → Prop) → Prop := fun σ H Q =>
  ∃ ρ W env A, SR K w ρ W H env σ A ∧ onG K w mg Wx R ρ σ W H A (f env) Q
variable {K : PySem.W.Frag} {w : World} {mg : Str → Option Value} {Wx : WX} {R : Hp → α → β → Prop} {ρ : Nat → Addr} {σ : L2.St} {W H W1 H1 : Hp} {A A1 : List (List Addr)} {o : Out (α × Ev)} {Q Q' : β → Hp → Prop}
theorem onG_fr (h : onG K w mg Wx R ρ σ W H A o Q) (F : Fr W H (ownd A) W1 H1 (ownd A1)) : onG K w mg Wx R ρ σ W1 H1 A1 o Q := by
  cases o with
  | ok r => exact fun W' H' A' v S' F' r' => h W' H' A' v S' (F.trans F') r'
  | exc c d e => exact fun C W' H' A' dx v g S' F' x r' => h C W' H' A' dx v g S' (F.trans F') x r'
  | bad => exact h
theorem onG_mono (h : onG K w mg Wx R ρ σ W H A o Q) (k : ∀ v H', Q v H' → Q' v H') : onG K w mg Wx R ρ σ W H A o Q' := by
  cases o with
  | ok r => exact fun W' H' A' v S' F' r' => k _ _ (h W' H' A' v S' F' r')
  | exc c d e => exact h
  | bad => exact h
theorem tG_mono {f : Ev → Out (α × Ev)} (k : ∀ v H', Q v H' → Q' v H') (h : tG K w mg Wx R f σ H Q) : tG K w mg Wx R f σ H Q' := by
  obtain ⟨ρ, W, env, A, S, h⟩ := h
  exact ⟨ρ, W, env, A, S, onG_mono h k⟩
end
/-- THE STEP: what f reckons, then the rest -/
theorem tG_seq {α β γ δ : Type} {K : PySem.W.Frag} {w : World} {mg : Str → Option Value} {Wx : WX} {R : Hp → α → β → Prop} {R' : Hp → γ → δ → Prop} {ρ : Nat → Addr} {σ : L2.St} {W H : Hp} {A : List (List Addr)} {env : Ev} {f : Ev → Out (α × Ev)} {k : α × Ev → Out (γ × Ev)} {Q : δ → Hp → Prop}
    (S : SR K w ρ W H env σ A) (h : onG K w mg Wx R' ρ σ W H A ((f env).bind k) Q) :
    tG K w mg Wx R f σ H fun v H1 => ∃ d W1 env1 A1, SR K w ρ W1 H1 env1 σ A1 ∧ Fr W H (ownd A) W1 H1 (ownd A1) ∧ R W1 d v ∧ onG K w mg Wx R' ρ σ W1 H1 A1 (k (d, env1)) Q := by
  refine ⟨ρ, W, env, A, S, ?_⟩
  cases e : f env with
  | ok r =>
    rw [e, Out.bind_ok] at h
    obtain ⟨d, env1⟩ := r
    exact fun W1 H1 A1 v S1 F1 r1 => ⟨d, W1, env1, A1, S1, F1, r1, onG_fr h F1⟩
  | exc c d e' => rw [e, Out.bind_exc] at h; exact h
  | bad => rw [e, Out.bind_bad] at h; exact h.elim
/-- the step, with what follows -/
theorem tG_then {α β γ δ : Type} {K : PySem.W.Frag} {w : World} {mg : Str → Option Value} {Wx : WX} {R : Hp → α → β → Prop} {R' : Hp → γ → δ → Prop} {ρ : Nat → Addr} {σ : L2.St} {W H : Hp} {A : List (List Addr)} {env : Ev} {f : Ev → Out (α × Ev)} {k : α × Ev → Out (γ × Ev)} {Q : δ → Hp → Prop} {Q' : β → Hp → Prop}
    (S : SR K w ρ W H env σ A) (h : onG K w mg Wx R' ρ σ W H A ((f env).bind k) Q)
    (n : ∀ d W1 H1 env1 A1 v, SR K w ρ W1 H1 env1 σ A1 → Fr W H (ownd A) W1 H1 (ownd A1) → R W1 d v → onG K w mg Wx R' ρ σ W1 H1 A1 (k (d, env1)) Q → Q' v H1) : tG K w mg Wx R f σ H Q' :=
  tG_mono (fun v H1 ⟨d, W1, env1, A1, S1, F1, r1, h1⟩ => n d W1 H1 env1 A1 v S1 F1 r1 h1) (tG_seq S h)

abbrev tX (X : Cx) (Wx : WX) (f : XF) : TE := tG X.K X.w X.mg Wx (Rep X.K X.w) f
abbrev tT (X : Cx) (Wx : WX) (f : TF) : TT := tG X.K X.w X.mg Wx (fun _ a b => b = a) f
abbrev tL (X : Cx) (Wx : WX) (f : AF) : TA := tG X.K X.w X.mg Wx (RepL X.K X.w) f
abbrev onX (X : Cx) (Wx : WX) := onG X.K X.w X.mg Wx (Rep X.K X.w)

/-- e reckons as f says -/
abbrev EX (X : Cx) (Wx : WX) (e : Expr) (f : XF) : Prop := PE X e (tX X Wx f)
abbrev ET (X : Cx) (Wx : WX) (e : Expr) (f : TF) : Prop := PT X e (tT X Wx f)
abbrev EA (X : Cx) (Wx : WX) (es : List Expr) (f : AF) : Prop := PA X es (tL X Wx f)

theorem PE.wk {X : Cx} {e : Expr} {t t' : TE} (h : PE X e t) (k : ∀ σ H Q, t' σ H Q → t σ H Q) : PE X e t' := ⟨fun pins s σ H Q I q => h.run pins s σ H Q I (k σ H Q q)⟩
theorem PT.wk {X : Cx} {e : Expr} {t t' : TT} (h : PT X e t) (k : ∀ σ H Q, t' σ H Q → t σ H Q) : PT X e t' := ⟨fun pins s σ H Q I q => h.run pins s σ H Q I (k σ H Q q)⟩
theorem PW.wk {X : Cx} {e : Expr} {t t' : TT} (h : PW X e t) (k : ∀ σ H Q, t' σ H Q → t σ H Q) : PW X e t' := ⟨fun wh pins s σ H Q I q => h.run wh pins s σ H Q I (k σ H Q q)⟩
theorem PA.wk {X : Cx} {es : List Expr} {t t' : TA} (h : PA X es t) (k : ∀ σ H Q, t' σ H Q → t σ H Q) : PA X es t' := ⟨fun pos pins s σ H Q I q => h.run pos pins s σ H Q I (k σ H Q q)⟩
theorem PS.wk {X : Cx} {st : Stmt} {t t' : TS} (h : PS X st t) (k : ∀ D σ H, t' D σ H → t D σ H) : PS X st t' := ⟨fun pins s σ H D I q => h.run pins s σ H D I (k D σ H q)⟩
theorem PSs.wk {X : Cx} {st : List Stmt} {t t' : TS} (h : PSs X st t) (k : ∀ D σ H, t' D σ H → t D σ H) : PSs X st t' := ⟨fun pins s σ H D I q => h.run pins s σ H D I (k D σ H q)⟩
theorem PI.wk {X : Cx} {tg iter : Expr} {t t' : TI} (h : PI X tg iter t) (k : ∀ σ H R, t' σ H R → t σ H R) : PI X tg iter t' := ⟨fun pins s σ H R I q => h.run pins s σ H R I (k σ H R q)⟩

/-! ### operations on values -/
section
variable (K : PySem.W.Frag) (w : World)
/-- what is wanted of an operation's result -/
def onV (W H : Hp) (o : Option D) (Q : VK) : Prop := match o with
  | some z => ∀ W' H' v, Ex W H W' H' → Rep K w W' z v → Q v H'
  | none => False
def tV1 (op : D → Option D) : V → Hp → VK → Prop := fun v H Q => ∃ W x, Same W H ∧ Rep K w W x v ∧ onV K w W H (op x) Q
def tV2 (op : D → D → Option D) : V → V → Hp → VK → Prop := fun v u H Q => ∃ W x y, Same W H ∧ Rep K w W x v ∧ Rep K w W y u ∧ onV K w W H (op x y) Q
def tVn (op : List D → Option D) : List V → Hp → VK → Prop := fun vs H Q => ∃ W xs, Same W H ∧ RepL K w W xs vs ∧ onV K w W H (op xs) Q
end
def liftO {α : Type} (o : Option α) (env : Ev) : Out (α × Ev) := match o with
  | some d => .ok (d, env)
  | none => .bad
@[simp] theorem liftO_some {α : Type} (d : α) (env : Ev) : liftO (some d) env = .ok (d, env) := rfl
@[simp] theorem liftO_none {α : Type} (env : Ev) : liftO (none : Option α) env = .bad := rfl
section
variable {X : Cx} {Wx : WX} {ρ : Nat → Addr} {σ : L2.St} {W H : Hp} {A : List (List Addr)} {env : Ev} {Q : VK}
/-- .. in the slots' picture -/
theorem onV_of {o : Option D} (S : SR X.K X.w ρ W H env σ A) (h : onX X Wx ρ σ W H A (liftO o env) Q) : onV X.K X.w W H o Q := by
  cases o with
  | none => exact h
  | some z => exact fun W' H' v e r => h W' H' A v (S.ex e) (e.fr _) r
end

def xConst (d : D) : XF := fun env => .ok (d, env)
def x1 (op : D → Option D) (f : XF) : XF := fun env => (f env).bind fun r => liftO (op r.1) r.2
def x2 (op : D → D → Option D) (f g : XF) : XF := fun env => (f env).bind fun r => (g r.2).bind fun q => liftO (op r.1 q.1) q.2
def aNil : AF := fun env => .ok ([], env)
def aCons (f : XF) (g : AF) : AF := fun env => (f env).bind fun r => (g r.2).bind fun q => .ok (r.1 :: q.1, q.2)
def xn (op : List D → Option D) (f : AF) : XF := fun env => (f env).bind fun r => liftO (op r.1) r.2

section
variable {X : Cx} {Wx : WX} {a b : Expr} {f g : XF} {pos : Pos}
theorem ex_un {op : UnaryOp} {o : D → Option D} (ho : UnR X (unaryOp op) (tV1 X.K X.w o)) (ha : EX X Wx a f) : EX X Wx (.UnaryOp op a pos) (x1 o f) := by
  refine PE.wk (pe_un ho ha) ?_
  rintro σ H Q ⟨ρ, W, env, A, S, h⟩
  exact tG_then S h fun d W1 H1 env1 A1 v S1 F1 r1 h1 => ⟨W1, d, S1.sub, r1, onV_of S1 h1⟩
theorem x2_read {r : V → V → Hp → VK → Prop} {o : D → D → Option D} {σ : L2.St} {H : Hp} {Q : VK} (k : ∀ v u H Q, tV2 X.K X.w o v u H Q → r v u H Q) (h : tX X Wx (x2 o f g) σ H Q) : tOp r (tX X Wx f) (tX X Wx g) σ H Q := by
  obtain ⟨ρ, W, env, A, S, h⟩ := h
  refine tG_then S h fun d W1 H1 env1 A1 v S1 F1 r1 h1 => ?_
  refine tG_then S1 h1 fun d2 W2 H2 env2 A2 u S2 F2 r2 h2 => ?_
  exact k _ _ _ _ ⟨W2, d, d2, S2.sub, Rep.mono F2.ext d v r1, r2, onV_of S2 h2⟩
theorem ex_bin {op : Operator} {o : D → D → Option D} (ho : OpR X (binaryOp op) (tV2 X.K X.w o)) (ha : EX X Wx a f) (hb : EX X Wx b g) : EX X Wx (.BinOp a op b pos) (x2 o f g) :=
  PE.wk (pe_op ho ha hb) fun σ H Q h => x2_read (fun _ _ _ _ q => q) h
theorem ex_cmp {op : CmpOp} {o : D → D → Option D} (ho : OpR X (compareOp op) (tV2 X.K X.w o)) (ha : EX X Wx a f) (hb : EX X Wx b g) (hm : behindInMarks op b = false := by first | exact nomark _ | rfl) : EX X Wx (.Compare a [op] [b] pos) (x2 o f g) :=
  PE.wk (pe_cmpR ho ha hb hm) fun σ H Q h => x2_read (fun _ _ _ _ q => q) h
theorem ea_nil : EA X Wx [] aNil := by
  refine PA.wk pa_nil ?_
  rintro σ H Q ⟨ρ, W, env, A, S, h⟩
  exact h W H A [] S (Fr.refl _ _ _) RepL.nil
theorem ea_cons {es : List Expr} {g : AF} (ha : EX X Wx a f) (hr : EA X Wx es g) (hs : starEach (a :: es) X.env = (false, eval a X.env) :: starEach es X.env := by rfl) : EA X Wx (a :: es) (aCons f g) := by
  refine PA.wk (pa_cons ha hr hs) ?_
  rintro σ H Q ⟨ρ, W, env, A, S, h⟩
  refine tG_then S h fun d W1 H1 env1 A1 v S1 F1 r1 h1 => ?_
  refine tG_then S1 h1 fun ds W2 H2 env2 A2 vs S2 F2 r2 h2 => ?_
  exact h2 W2 H2 A2 _ S2 (Fr.refl _ _ _) (RepL.cons (Rep.mono F2.ext d v r1) r2)
/-- a frozen slot -/
def xVar (i : Nat) : XF := fun env => match env[i]? with
  | some (.fz d) => .ok (d, env)
  | some (.ow _ c) => .ok (c, env.set i (.fz c))
  | _ => .bad
theorem Own.lay {K : PySem.W.Frag} {w : World} {W H : Hp} {c : D} {p : Addr} (h : Own K w W H c p) (e : Same W H) (n : W p = none) : ∃ o, H p = some o ∧ Rep K w (upd W p o) c (.ref p) ∧ Same (L2.upd W p o) H := by
  have sm : ∀ o, Same W (L2.upd W p o) := fun o b u q => by rw [upd_ne (ne_of_none q n)]; exact q
  have sH : ∀ o, H p = some o → Same (L2.upd W p o) H := fun o ho b u q => by
    by_cases hb : b = p
    · subst hb; rw [upd_same] at q; rw [ho]; exact q
    · rw [upd_ne hb] at q; exact e _ _ q
  cases c with
  | list ds =>
    obtain ⟨vs, h1, h2⟩ := h
    refine ⟨_, h1, ?_, sH _ h1⟩
    simp only [Rep]
    exact ⟨p, vs, rfl, upd_same, RepL.mono (sm _) ds vs h2⟩
  | dict kvs =>
    obtain ⟨es, ep, h1, h2, h3⟩ := h
    refine ⟨_, h1, ?_, sH _ h1⟩
    simp only [Rep]
    exact ⟨p, es, ep, rfl, upd_same, RepKV.mono (sm _) kvs _ h2, h3⟩
  | _ => exact h.elim
theorem ex_var {i : Nat} {x : Str} (h : PE X (.Name x pos) (tVar i)) : EX X Wx (.Name x pos) (xVar i) := by
  refine PE.wk h ?_
  rintro σ H Q ⟨ρ, W, env, A, S, h⟩
  unfold xVar at h
  cases e : env[i]? with
  | none => rw [e] at h; exact h.elim
  | some sl =>
    rw [e] at h
    obtain ⟨v, l, h1, h2, h3⟩ := S.at e
    cases sl with
    | no => exact h.elim
    | sc ns => exact h.elim
    | fz d =>
      obtain ⟨_, x, rfl, r⟩ := h3
      exact ⟨x, h1, h W H A x S (Fr.refl _ _ _) r⟩
    | ow t c =>
      obtain ⟨p, rfl, rfl, q3, q4, _⟩ := h3
      obtain ⟨o, ho, r, sb⟩ := q4.lay S.sub q3
      refine ⟨.ref p, h1, ?_⟩
      have hl : i < σ.length := (List.getElem?_eq_some_iff.mp h1).1
      have sm : Same W (upd W p o) := fun b u q => by rw [upd_ne (ne_of_none q q3)]; exact q
      have S1 : SR X.K X.w ρ (upd W p o) H (env.set i (.fz c)) σ (A.set i []) := by
        have S2 : SR X.K X.w ρ W H (env.set i .no) (σ.set i (some (.ref p))) (A.set i []) := S.setNo i _
        have es : σ.set i (some (V.ref p)) = σ := by
          refine List.ext_getElem? fun j => ?_
          by_cases hj : j = i
          · subst hj; rw [List.getElem?_set_self hl, h1]
          · rw [List.getElem?_set_ne (Ne.symm hj)]
        rw [es] at S2
        have S3 : SR X.K X.w ρ (upd W p o) H (env.set i .no) σ (A.set i []) := by
          refine S2.keep sm sb fun b hb => ⟨rfl, ?_⟩
          have hbp : b ≠ p := by
            rintro rfl
            obtain ⟨j, m, hj, hm⟩ := hb
            rcases at_set hj with ⟨_, e⟩ | ⟨e1, e2⟩
            · subst e; cases hm
            · exact e1 (S.inj j i m [b] b e2 h2 hm (by simp))
          rw [upd_ne hbp]
          exact (S.own (ownd_nil hb)).1
        have S4 := S3.setFz i r
        rw [es] at S4
        simpa using S4
      refine h _ H _ _ S1 ⟨sm, fun _ _ q _ => q, fun b h5 h6 => ?_, fun b hb => .inl (ownd_nil hb)⟩ r
      by_cases hb : b = p
      · subst hb; exact .inl ⟨i, _, h2, by simp⟩
      · rw [upd_ne hb] at h5; exact absurd h6 h5
theorem ex_const {e : Expr} {d : D} {v : V} (h : PE X e (tC v)) (r : ∀ W, Rep X.K X.w W d v) : EX X Wx e (xConst d) := by
  refine PE.wk h ?_
  rintro σ H Q ⟨ρ, W, env, A, S, h⟩
  exact h W H A v S (Fr.refl _ _ _) (r W)
end
end DP
set_option Elab.async false
set_option linter.all false
set_option maxRecDepth 100000
/-! DP, part 4: operators by values. -/
namespace DP
open PySem PySem.Spec PyProof.Rows L2

/-! ### arithmetic -/
def addD : D → D → Option D
  | .int i, .int j => some (.int (i + j))
  | .str x, .str y => if x.length + y.length ≤ sizeLine then some (.str (x ++ y)) else none
  | .list xs, .list ys => if xs.length + ys.length ≤ sizeLine then some (.list (xs ++ ys)) else none
  | .tuple xs, .tuple ys => if xs.length + ys.length ≤ sizeLine then some (.tuple (xs ++ ys)) else none
  | _, _ => none
def subD : D → D → Option D
  | .int i, .int j => some (.int (i - j))
  | _, _ => none
/-- within 2^64 -/
def s64 (i : Int) : Bool := decide (-(2 ^ 64) < i) && decide (i < 2 ^ 64)
def mulD : D → D → Option D
  | .int i, .int j => if s64 i || s64 j then some (.int (i * j)) else none
  | .list xs, .int j => if s64 j && decide (-(2 ^ 63) ≤ j) && decide (j < 2 ^ 63) && decide (xs.length * j.toNat ≤ sizeLine) then some (.list (List.replicate j.toNat xs).flatten) else none
  | _, _ => none
def fdivD : D → D → Option D
  | .int i, .int j => if j ≠ 0 ∧ j.natAbs < 1073741824 then some (.int (i.fdiv j)) else none
  | _, _ => none
def modD : D → D → Option D
  | .int i, .int j => if j ≠ 0 then some (.int (i.fmod j)) else none
  | _, _ => none
def powD : D → D → Option D
  | .int i, .int j => if 0 ≤ j ∧ j ≤ 1000000 ∧ i.natAbs < 2 ^ 64 then some (.int (i ^ j.toNat)) else none
  | _, _ => none
def negD : D → Option D
  | .int i => some (.int (-i))
  | _ => none

section
variable {X : Cx} {W H : Hp} {Q : VK} {K : PySem.W.Frag} {w : World}
/-- a result that needs no object -/
theorem onV.flat {z : D} {v : V} (h : onV K w W H (some z) Q) (s : Same W H) (r : Rep K w W z v) : Q v H := h W H v (Ex.refl s) r
/-- a new list -/
theorem onV.lst {zs : List D} {vs : List V} {p : Addr} (h : onV K w W H (some (.list zs)) Q) (s : Same W H) (r : RepL K w W zs vs) (n : H p = none) : Q (.ref p) (upd H p (.lst vs)) := by
  have e := Ex.one (o := .lst vs) s n
  refine h _ _ _ e ?_
  simp only [Rep]
  exact ⟨p, vs, rfl, upd_same, RepL.mono e.ext _ _ r⟩
theorem onV.tup {zs : List D} {vs : List V} {p : Addr} (h : onV K w W H (some (.tuple zs)) Q) (s : Same W H) (r : RepL K w W zs vs) (n : H p = none) : Q (.ref p) (upd H p (.tup vs)) := by
  have e := Ex.one (o := .tup vs) s n
  refine h _ _ _ e ?_
  simp only [Rep]
  exact ⟨p, vs, rfl, .of upd_same, RepL.mono e.ext _ _ r⟩
theorem OpR.wk {f : Value → Value → Sem Value} {r r' : R2} (h : OpR X f r) (k : ∀ x y H Q, r' x y H Q → r x y H Q) : OpR X f r' := fun pins s σ H x y v u Q I r1 r2 q => h pins s σ H x y v u Q I r1 r2 (k _ _ _ _ q)
theorem UnR.wk {f : Value → Sem Value} {r r' : V → Hp → VK → Prop} (h : UnR X f r) (k : ∀ x H Q, r' x H Q → r x H Q) : UnR X f r' := fun pins s σ H x v Q I r1 q => h pins s σ H x v Q I r1 (k _ _ _ q)
theorem CallR.wk {f : Value} {r r' : List V → Hp → VK → Prop} (h : CallR X f r) (k : ∀ x H Q, r' x H Q → r x H Q) : CallR X f r' := fun pins s σ H x v Q I r1 q => h pins s σ H x v Q I r1 (k _ _ _ q)

theorem RepL.rep {ds : List D} {vs : List V} (h : RepL K w W ds vs) : ∀ n : Nat, RepL K w W (List.replicate n ds).flatten (List.replicate n vs).flatten
  | 0 => RepL.nil
  | n + 1 => by
    rw [List.replicate_succ, List.replicate_succ, List.flatten_cons, List.flatten_cons]
    exact h.append (RepL.rep h n)
theorem op_addD : OpR X (binaryOp .Add) (tV2 X.K X.w addD) := by
  refine OpR.wk (OpR.or op_add (OpR.or op_add_str (OpR.or op_cat op_catA))) ?_
  rintro v u H Q ⟨W, x, y, s, r1, r2, h⟩
  unfold addD at h
  split at h
  · simp only [Rep] at r1 r2
    subst r1 r2
    exact .inl ⟨_, _, rfl, rfl, h.flat s rfl⟩
  · simp only [Rep] at r1 r2
    subst r1 r2
    split at h
    · rename_i c
      exact .inr (.inl ⟨_, _, rfl, rfl, c, h.flat s rfl⟩)
    · exact h.elim
  · simp only [Rep] at r1 r2
    obtain ⟨a, vs, rfl, q1, l1⟩ := r1
    obtain ⟨b, us, rfl, q2, l2⟩ := r2
    split at h
    · rename_i c
      refine .inr (.inr (.inl ⟨a, b, vs, us, rfl, rfl, s _ _ q1, s _ _ q2, by rw [l1.len, l2.len]; exact c, fun p n => ?_⟩))
      exact h.lst s (l1.append l2) n
    · exact h.elim
  · simp only [Rep] at r1 r2
    obtain ⟨a, vs, rfl, q1, l1⟩ := r1
    obtain ⟨b, us, rfl, q2, l2⟩ := r2
    split at h
    · rename_i c
      refine .inr (.inr (.inr ⟨a, b, vs, us, rfl, rfl, Same.sqt s q1, Same.sqt s q2, by rw [l1.len, l2.len]; exact c, fun z => ?_, fun _ z => ?_, fun _ _ p n => ?_⟩))
      · subst z
        have z := l1.len
        have z : _ = [] := List.eq_nil_of_length_eq_zero z.symm
        subst z
        refine h.flat s ?_
        simp only [Rep, List.nil_append]
        exact ⟨b, us, rfl, q2, l2⟩
      · subst z
        have z := l2.len
        have z : _ = [] := List.eq_nil_of_length_eq_zero z.symm
        subst z
        refine h.flat s ?_
        simp only [Rep, List.append_nil]
        exact ⟨a, vs, rfl, q1, l1⟩
      · exact h.tup s (l1.append l2) n
    · exact h.elim
  · exact h.elim
theorem op_subD : OpR X (binaryOp .Sub) (tV2 X.K X.w subD) := by
  refine OpR.wk op_sub ?_
  rintro v u H Q ⟨W, x, y, s, r1, r2, h⟩
  unfold subD at h
  split at h
  · simp only [Rep] at r1 r2
    subst r1 r2
    exact ⟨_, _, rfl, rfl, h.flat s rfl⟩
  · exact h.elim
theorem s64_iff {i : Int} : s64 i = true ↔ -(2 ^ 64) < i ∧ i < 2 ^ 64 := by simp [s64]
theorem op_mulD : OpR X (binaryOp .Mult) (tV2 X.K X.w mulD) := by
  refine OpR.wk (OpR.or op_mul op_rep) ?_
  rintro v u H Q ⟨W, x, y, s, r1, r2, h⟩
  unfold mulD at h
  split at h
  · simp only [Rep] at r1 r2
    subst r1 r2
    split at h
    · rename_i c
      rw [Bool.or_eq_true, s64_iff, s64_iff] at c
      exact .inl ⟨_, _, rfl, rfl, c, h.flat s rfl⟩
    · exact h.elim
  · simp only [Rep] at r1 r2
    obtain ⟨a, vs, rfl, q1, l1⟩ := r1
    subst r2
    split at h
    · rename_i c
      simp only [Bool.and_eq_true, decide_eq_true_eq] at c
      refine .inr ⟨a, _, vs, rfl, rfl, s _ _ q1, c.1.1.2, c.1.2, by rw [l1.len]; exact c.2, fun p n => ?_⟩
      exact h.lst s (RepL.rep l1 _) n
    · exact h.elim
  · exact h.elim
theorem op_fdivD : OpR X (binaryOp .FloorDiv) (tV2 X.K X.w fdivD) := by
  refine OpR.wk op_fdivN ?_
  rintro v u H Q ⟨W, x, y, s, r1, r2, h⟩
  unfold fdivD at h
  split at h
  · simp only [Rep] at r1 r2
    subst r1 r2
    split at h
    · rename_i c
      exact ⟨_, _, rfl, rfl, c, h.flat s rfl⟩
    · exact h.elim
  · exact h.elim
theorem op_modD : OpR X (binaryOp .Mod) (tV2 X.K X.w modD) := by
  refine OpR.wk op_modN ?_
  rintro v u H Q ⟨W, x, y, s, r1, r2, h⟩
  unfold modD at h
  split at h
  · simp only [Rep] at r1 r2
    subst r1 r2
    split at h
    · rename_i c
      exact ⟨_, _, rfl, rfl, c, h.flat s rfl⟩
    · exact h.elim
  · exact h.elim
theorem op_powD : OpR X (binaryOp .Pow) (tV2 X.K X.w powD) := by
  refine OpR.wk op_pow ?_
  rintro v u H Q ⟨W, x, y, s, r1, r2, h⟩
  unfold powD at h
  split at h
  · simp only [Rep] at r1 r2
    subst r1 r2
    split at h
    · rename_i c
      exact ⟨_, _, rfl, rfl, c, h.flat s rfl⟩
    · exact h.elim
  · exact h.elim
theorem un_negD : UnR X (unaryOp .USub) (tV1 X.K X.w negD) := by
  refine UnR.wk un_neg ?_
  rintro v H Q ⟨W, x, s, r1, h⟩
  unfold negD at h
  split at h
  · simp only [Rep] at r1
    subst r1
    exact ⟨_, rfl, h.flat s rfl⟩
  · exact h.elim
/-! ### comparisons -/
/-- how deep data may be where it is compared -/
def okD (x y : D) : Bool := decide (min x.depth y.depth ≤ 60)
def eqD (x y : D) : Option D := if x.plain && y.plain && okD x y then some (.bool (x.eqv y)) else none
def neD (x y : D) : Option D := if x.plain && y.plain && okD x y then some (.bool (!x.eqv y)) else none
def notNone : D → Bool
  | .none => false
  | _ => true
def ltD (x y : D) : Option D := if PySem.W.alike x y && notNone x && okD x y then some (.bool (PySem.W.dataLt x y)) else none
def gtD (x y : D) : Option D := if PySem.W.alike x y && notNone x && okD x y then some (.bool (PySem.W.dataLt y x)) else none
def leD (x y : D) : Option D := if PySem.W.alike x y && notNone x && okD x y then some (.bool (!PySem.W.dataLt y x)) else none
def geD (x y : D) : Option D := if PySem.W.alike x y && notNone x && okD x y then some (.bool (!PySem.W.dataLt x y)) else none
theorem notNone_ne {x : D} (h : notNone x = true) : x ≠ .none := fun e => by subst e; cases h
theorem op_cmpD {op : CmpOp} {o : D → D → Option D} {b : D → D → Bool} (ho : ∀ x y z, o x y = some z → z = .bool (b x y))
    (rule : ∀ (s : Shared) (x y z : D) (u v : Value) (as bs : List Addr) (Q : Value → Shared → Prop), o x y = some z → Reads s.heap u x as → Reads s.heap v y bs → Q (.bool (b x y)) s → wpAny (model X.prog X.w) X.A (compareOp op u v) Q X.xe s) :
    OpR X (compareOp op) (tV2 X.K X.w o) := by
  intro pins s σ H vx vy u v Q I rx ry h
  obtain ⟨W, x, y, sm, r1, r2, h⟩ := h
  obtain ⟨as, ra⟩ := Rep.reads I sm x vx u r1 rx
  obtain ⟨bs, rb⟩ := Rep.reads I sm y vy v r2 ry
  cases e : o x y with
  | none => rw [e] at h; exact h.elim
  | some z =>
    rw [e] at h
    have ez := ho _ _ _ e
    subst ez
    exact rule s x y _ u v as bs _ e ra rb ⟨.bl _, H, I, rfl, h.flat sm rfl⟩
theorem op_eqD' (hu : X.A.units + 64 < cLine) : OpR X (compareOp .Eq) (tV2 X.K X.w eqD) := by
  refine op_cmpD (b := fun x y => x.eqv y) (fun x y z e => ?_) fun s x y z u v as bs Q e ra rb h => ?_
  · unfold eqD at e; split at e <;> cases e; rfl
  · unfold eqD at e
    split at e
    · rename_i c
      simp only [Bool.and_eq_true, okD, decide_eq_true_eq] at c
      exact PySem.SeqAt.eq_plain ra rb c.1.1 c.1.2 (by omega) h
    · cases e
theorem op_neD' (hu : X.A.units + 64 < cLine) : OpR X (compareOp .NotEq) (tV2 X.K X.w neD) := by
  refine op_cmpD (b := fun x y => !x.eqv y) (fun x y z e => ?_) fun s x y z u v as bs Q e ra rb h => ?_
  · unfold neD at e; split at e <;> cases e; rfl
  · unfold neD at e
    split at e
    · rename_i c
      simp only [Bool.and_eq_true, okD, decide_eq_true_eq] at c
      exact PySem.SeqAt.ne_plain ra rb c.1.1 c.1.2 (by omega) h
    · cases e
theorem op_ltD (hu : X.A.units + 64 < cLine) : OpR X (compareOp .Lt) (tV2 X.K X.w ltD) := by
  refine op_cmpD (b := fun x y => PySem.W.dataLt x y) (fun x y z e => ?_) fun s x y z u v as bs Q e ra rb h => ?_
  · unfold ltD at e; split at e <;> cases e; rfl
  · unfold ltD at e
    split at e
    · rename_i c
      simp only [Bool.and_eq_true, okD, decide_eq_true_eq] at c
      exact PySem.W.lt_data ra rb c.1.1 (notNone_ne c.1.2) (by omega) h
    · cases e
theorem op_gtD (hu : X.A.units + 64 < cLine) : OpR X (compareOp .Gt) (tV2 X.K X.w gtD) := by
  refine op_cmpD (b := fun x y => PySem.W.dataLt y x) (fun x y z e => ?_) fun s x y z u v as bs Q e ra rb h => ?_
  · unfold gtD at e; split at e <;> cases e; rfl
  · unfold gtD at e
    split at e
    · rename_i c
      simp only [Bool.and_eq_true, okD, decide_eq_true_eq] at c
      exact PySem.W.gt_data ra rb c.1.1 (notNone_ne c.1.2) (by omega) h
    · cases e
theorem op_leD (hu : X.A.units + 64 < cLine) : OpR X (compareOp .LtE) (tV2 X.K X.w leD) := by
  refine op_cmpD (b := fun x y => !PySem.W.dataLt y x) (fun x y z e => ?_) fun s x y z u v as bs Q e ra rb h => ?_
  · unfold leD at e; split at e <;> cases e; rfl
  · unfold leD at e
    split at e
    · rename_i c
      simp only [Bool.and_eq_true, okD, decide_eq_true_eq] at c
      exact PySem.W.le_data ra rb c.1.1 (notNone_ne c.1.2) (by omega) h
    · cases e
theorem op_geD (hu : X.A.units + 64 < cLine) : OpR X (compareOp .GtE) (tV2 X.K X.w geD) := by
  refine op_cmpD (b := fun x y => !PySem.W.dataLt x y) (fun x y z e => ?_) fun s x y z u v as bs Q e ra rb h => ?_
  · unfold geD at e; split at e <;> cases e; rfl
  · unfold geD at e
    split at e
    · rename_i c
      simp only [Bool.and_eq_true, okD, decide_eq_true_eq] at c
      exact PySem.W.ge_data ra rb c.1.1 (notNone_ne c.1.2) (by omega) h
    · cases e
end
end DP
set_option Elab.async false
set_option linter.all false
set_option maxRecDepth 100000
/-! DP, part 5: tests, statements, targets, loops. -/
namespace DP
open PySem PySem.Spec PyProof.Rows L2

/-! ### tests -/
def asB (r : D × Ev) : Out (Bool × Ev) := match r.1 with
  | .bool b => .ok (b, r.2)
  | _ => .bad
@[simp] theorem asB_bool (b : Bool) (e : Ev) : asB (.bool b, e) = .ok (b, e) := rfl
def tst (f : XF) : TF := fun env => (f env).bind asB
def tNotF (f : TF) : TF := fun env => (f env).bind fun r => .ok (!r.1, r.2)
def tAndF (f g : TF) : TF := fun env => (f env).bind fun r => if r.1 = true then g r.2 else .ok (false, r.2)
def tOrF (f g : TF) : TF := fun env => (f env).bind fun r => if r.1 = true then .ok (true, r.2) else g r.2
def xIf (c : TF) (f g : XF) : XF := fun env => (c env).bind fun r => if r.1 = true then f r.2 else g r.2
/-- and, or, not as values -/
def xBool (f : TF) : XF := fun env => (f env).bind fun r => .ok (.bool r.1, r.2)

section
variable {X : Cx} {Wx : WX} {a b c : Expr} {f g : XF} {tf tg : TF} {rest : List Expr} {pos : Pos}
theorem et_val (h : EX X Wx a f) (he : ∀ whole, isTrue a X.env whole = (do let v ← whole; standAt a.pos; holding [v] (truthy v)) := by intro _; rfl) : ET X Wx a (tst f) := by
  refine PT.wk (pt_val h he) ?_
  rintro σ H Q ⟨ρ, W, env, A, S, h⟩
  refine tG_then S h fun d W1 H1 env1 A1 v S1 F1 r1 h1 => ?_
  unfold asB at h1
  split at h1
  · rename_i b e
    simp only at e
    subst e
    simp only [Rep] at r1
    exact ⟨b, r1, h1 W1 H1 A1 b S1 (Fr.refl _ _ _) rfl⟩
  · exact h1.elim
theorem et_not (h : ET X Wx a tf) : ET X Wx (.UnaryOp .Not a pos) (tNotF tf) := by
  refine PT.wk (pt_not h) ?_
  rintro σ H Q ⟨ρ, W, env, A, S, h⟩
  refine tG_then S h fun d W1 H1 env1 A1 v S1 F1 r1 h1 => ?_
  subst r1
  exact h1 W1 H1 A1 _ S1 (Fr.refl _ _ _) rfl
theorem ew_and1 (h : ET X Wx a tf) : PW X (.BoolOp .And [a] pos) (tT X Wx tf) := pw_and1 h
theorem ew_or1 (h : ET X Wx a tf) : PW X (.BoolOp .Or [a] pos) (tT X Wx tf) := pw_or1 h
theorem ew_and (h : ET X Wx a tf) (k : PW X (.BoolOp .And (b :: rest) pos) (tT X Wx tg)) : PW X (.BoolOp .And (a :: b :: rest) pos) (tT X Wx (tAndF tf tg)) := by
  refine PW.wk (pw_and h k) ?_
  rintro σ H Q ⟨ρ, W, env, A, S, h⟩
  refine tG_then S h fun d W1 H1 env1 A1 v S1 F1 r1 h1 => ?_
  subst r1
  cases v with
  | true => exact iteT ⟨ρ, W1, env1, A1, S1, h1⟩
  | false => exact iteF (h1 W1 H1 A1 _ S1 (Fr.refl _ _ _) rfl)
theorem ew_or (h : ET X Wx a tf) (k : PW X (.BoolOp .Or (b :: rest) pos) (tT X Wx tg)) : PW X (.BoolOp .Or (a :: b :: rest) pos) (tT X Wx (tOrF tf tg)) := by
  refine PW.wk (pw_or h k) ?_
  rintro σ H Q ⟨ρ, W, env, A, S, h⟩
  refine tG_then S h fun d W1 H1 env1 A1 v S1 F1 r1 h1 => ?_
  subst r1
  cases v with
  | true => exact iteT (h1 W1 H1 A1 _ S1 (Fr.refl _ _ _) rfl)
  | false => exact iteF ⟨ρ, W1, env1, A1, S1, h1⟩
theorem et_bool (h : PW X a (tT X Wx tf)) : ET X Wx a tf := h.pt
theorem ex_if (hc : ET X Wx c tf) (ha : EX X Wx a f) (hb : EX X Wx b g) : EX X Wx (.IfExp c a b pos) (xIf tf f g) := by
  refine PE.wk (pe_ifExp hc ha hb) ?_
  rintro σ H Q ⟨ρ, W, env, A, S, h⟩
  refine tG_then S h fun d W1 H1 env1 A1 v S1 F1 r1 h1 => ?_
  subst r1
  cases v with
  | true => exact iteT ⟨ρ, W1, env1, A1, S1, h1⟩
  | false => exact iteF ⟨ρ, W1, env1, A1, S1, h1⟩
/-- and, or, not as values: all of them bools -/
theorem ex_one {op : BoolOp} (h : EX X Wx a f) : EX X Wx (.BoolOp op [a] pos) (xBool (tst f)) := by
  refine PE.wk (pe_one h) ?_
  rintro σ H Q ⟨ρ, W, env, A, S, h⟩
  unfold xBool tst at h
  refine ⟨ρ, W, env, A, S, ?_⟩
  cases e : f env with
  | bad => rw [e] at h; exact h.elim
  | exc c d e' => rw [e] at h; exact h
  | ok r =>
    obtain ⟨d, e1⟩ := r
    rw [e] at h
    cases d with
    | bool b => exact h
    | _ => exact h.elim
theorem xb_then {R : Hp → Bool → Bool → Prop} {ρ : Nat → Addr} {σ : L2.St} {W H : Hp} {A : List (List Addr)} {env : Ev} {k : Bool × Ev → Out (D × Ev)} {Q : VK} {Q' : VK}
    (S : SR X.K X.w ρ W H env σ A) (h : onX X Wx ρ σ W H A ((xBool tf env).bind fun r => match r.1 with | .bool b => k (b, r.2) | _ => .bad) Q)
    (n : ∀ b W1 H1 env1 A1, SR X.K X.w ρ W1 H1 env1 σ A1 → Fr W H (ownd A) W1 H1 (ownd A1) → onX X Wx ρ σ W1 H1 A1 (k (b, env1)) Q → Q' (.bl b) H1) : tX X Wx (xBool tf) σ H Q' := by
  refine tG_then S h fun d W1 H1 env1 A1 v S1 F1 r1 h1 => ?_
  cases d with
  | bool b =>
    simp only [Rep] at r1
    subst r1
    exact n b W1 H1 env1 A1 S1 F1 h1
  | _ => exact h1.elim
theorem ex_tst (h : EX X Wx a f) : EX X Wx a (xBool (tst f)) := by
  refine PE.wk h ?_
  rintro σ H Q ⟨ρ, W, env, A, S, h⟩
  unfold xBool tst at h
  refine ⟨ρ, W, env, A, S, ?_⟩
  cases e : f env with
  | bad => rw [e] at h; exact h.elim
  | exc c d e' => rw [e] at h; exact h
  | ok r =>
    obtain ⟨d, e1⟩ := r
    rw [e] at h
    cases d with
    | bool b => exact h
    | _ => exact h.elim
theorem ex_and (h : EX X Wx a f) (k : EX X Wx (.BoolOp .And (b :: rest) pos) (xBool tg)) : EX X Wx (.BoolOp .And (a :: b :: rest) pos) (xBool (tAndF (tst f) tg)) := by
  refine PE.wk (pe_and h k) ?_
  rintro σ H Q ⟨ρ, W, env, A, S, h⟩
  unfold xBool tAndF tst at h
  refine ⟨ρ, W, env, A, S, ?_⟩
  cases e : f env with
  | bad => rw [e] at h; exact h.elim
  | exc c d e' => rw [e] at h; exact h
  | ok r =>
    obtain ⟨d, e1⟩ := r
    rw [e] at h
    cases d with
    | bool b =>
      intro W' H' A' v S' F' r'
      simp only [Rep] at r'
      subst r'
      refine ⟨b, rfl, ?_⟩
      simp only [Out.bind_ok, asB] at h
      cases b with
      | true => exact iteT ⟨ρ, W', e1, A', S', onG_fr h F'⟩
      | false => exact iteF (h W' H' A' _ S' F' rfl)
    | _ => exact h.elim
theorem ex_or (h : EX X Wx a f) (k : EX X Wx (.BoolOp .Or (b :: rest) pos) (xBool tg)) : EX X Wx (.BoolOp .Or (a :: b :: rest) pos) (xBool (tOrF (tst f) tg)) := by
  refine PE.wk (pe_or h k) ?_
  rintro σ H Q ⟨ρ, W, env, A, S, h⟩
  unfold xBool tOrF tst at h
  refine ⟨ρ, W, env, A, S, ?_⟩
  cases e : f env with
  | bad => rw [e] at h; exact h.elim
  | exc c d e' => rw [e] at h; exact h
  | ok r =>
    obtain ⟨d, e1⟩ := r
    rw [e] at h
    cases d with
    | bool b =>
      intro W' H' A' v S' F' r'
      simp only [Rep] at r'
      subst r'
      refine ⟨b, rfl, ?_⟩
      simp only [Out.bind_ok, asB] at h
      cases b with
      | true => exact iteT (h W' H' A' _ S' F' rfl)
      | false => exact iteF ⟨ρ, W', e1, A', S', onG_fr h F'⟩
    | _ => exact h.elim
theorem ex_not (h : EX X Wx a f) : EX X Wx (.UnaryOp .Not a pos) (xBool (tNotF (tst f))) := by
  refine PE.wk (pe_not h) ?_
  rintro σ H Q ⟨ρ, W, env, A, S, h⟩
  unfold xBool tNotF tst at h
  refine ⟨ρ, W, env, A, S, ?_⟩
  cases e : f env with
  | bad => rw [e] at h; exact h.elim
  | exc c d e' => rw [e] at h; exact h
  | ok r =>
    obtain ⟨d, e1⟩ := r
    rw [e] at h
    cases d with
    | bool b =>
      intro W' H' A' v S' F' r'
      simp only [Rep] at r'
      subst r'
      exact ⟨b, rfl, h W' H' A' _ S' F' rfl⟩
    | _ => exact h.elim
/-- is None, is not None -/
def isNb : D → Bool
  | .none => true
  | _ => false
def isN (x : D) : Option D := some (.bool (isNb x))
def notN (x : D) : Option D := some (.bool (!isNb x))
theorem rep_non {K : PySem.W.Frag} {w : World} {W : Hp} {x : D} {v : V} (r : Rep K w W x v) : decide (v = .non) = isNb x := by
  cases x <;> simp only [Rep] at r
  · subst r; rfl
  · subst r; rfl
  · subst r; rfl
  · subst r; rfl
  · obtain ⟨a, vs, rfl, _⟩ := r; rfl
  · obtain ⟨a, vs, rfl, _⟩ := r; rfl
  · obtain ⟨a, es, ep, rfl, _⟩ := r; rfl
theorem ex_isN {j p2} (h : EX X Wx a f) : EX X Wx (.Compare a [.Is] [.Constant .none j p2] pos) (x1 isN f) := by
  refine PE.wk (pe_cmp (pc_isN h)) ?_
  rintro σ H Q ⟨ρ, W, env, A, S, h⟩
  refine tG_then S h fun d W1 H1 env1 A1 v S1 F1 r1 h1 => ?_
  rw [rep_non r1]
  exact (onV_of S1 h1).flat S1.sub rfl
theorem ex_notN {j p2} (h : EX X Wx a f) : EX X Wx (.Compare a [.IsNot] [.Constant .none j p2] pos) (x1 notN f) := by
  refine PE.wk (pe_cmp (pc_notN h)) ?_
  rintro σ H Q ⟨ρ, W, env, A, S, h⟩
  refine tG_then S h fun d W1 H1 env1 A1 v S1 F1 r1 h1 => ?_
  rw [rep_non r1]
  exact (onV_of S1 h1).flat S1.sub rfl
/-- a < b < c -/
def xChain (o o' : D → D → Option D) (f g k : XF) : XF := fun env => (f env).bind fun r => (g r.2).bind fun q => (liftO (o r.1 q.1) q.2).bind fun t => (asB t).bind fun t => if t.1 = true then (k t.2).bind fun u => (liftO (o' q.1 u.1) u.2).bind fun z => .ok z else .ok (.bool false, t.2)
end

/-! ### statements -/
inductive Fl where
  | nx
  | rt (d : D)
  | bk
  | ct
abbrev SF := Ev → Out (Fl × Ev)
def onS (X : Cx) (Wx : WX) (ρ : Nat → Addr) (W H : Hp) (A : List (List Addr)) (o : Out (Fl × Ev)) (D : Ends) : Prop :=
  match o with
  | .ok (fl, env') => ∀ W' H' A' σ', SR X.K X.w ρ W' H' env' σ' A' → Fr W H (ownd A) W' H' (ownd A') → match fl with
    | .nx => D.nx σ' H'
    | .bk => D.bk σ' H'
    | .ct => D.ct σ' H'
    | .rt d => ∀ v, Rep X.K X.w W' d v → D.rt v H'
  | .exc c d env' => ∀ C W' H' A' σ' dx v, X.mg c = some (.ref C) → SR X.K X.w ρ W' H' env' σ' A' → Fr W H (ownd A) W' H' (ownd A') → H' dx = some (.xd [("at", v)]) → Rep X.K X.w W' d v → Wx (.ref C) (some dx) σ' H'
  | .bad => False
def tS (X : Cx) (Wx : WX) (f : SF) : TS := fun D σ H => ∃ ρ W env A, SR X.K X.w ρ W H env σ A ∧ onS X Wx ρ W H A (f env) D
abbrev ES (X : Cx) (Wx : WX) (st : Stmt) (f : SF) : Prop := PS X st (tS X Wx f)
abbrev EB (X : Cx) (Wx : WX) (st : List Stmt) (f : SF) : Prop := PSs X st (tS X Wx f)
section
variable {X : Cx} {Wx : WX} {ρ : Nat → Addr} {σ : L2.St} {W H W1 H1 : Hp} {A A1 : List (List Addr)} {o : Out (Fl × Ev)} {D : Ends} {env : Ev}
theorem onS_fr (h : onS X Wx ρ W H A o D) (F : Fr W H (ownd A) W1 H1 (ownd A1)) : onS X Wx ρ W1 H1 A1 o D := by
  cases o with
  | ok r => exact fun W' H' A' σ' S' F' => h W' H' A' σ' S' (F.trans F')
  | exc c d e => exact fun C W' H' A' σ' dx v g S' F' x r' => h C W' H' A' σ' dx v g S' (F.trans F') x r'
  | bad => exact h
/-- an expression within a statement -/
theorem tS_then {α β : Type} {R : Hp → α → β → Prop} {f : Ev → Out (α × Ev)} {k : α × Ev → Out (Fl × Ev)} {Q' : β → Hp → Prop}
    (S : SR X.K X.w ρ W H env σ A) (h : onS X Wx ρ W H A ((f env).bind k) D)
    (n : ∀ d W1 H1 env1 A1 v, SR X.K X.w ρ W1 H1 env1 σ A1 → Fr W H (ownd A) W1 H1 (ownd A1) → R W1 d v → onS X Wx ρ W1 H1 A1 (k (d, env1)) D → Q' v H1) : tG X.K X.w X.mg Wx R f σ H Q' := by
  refine ⟨ρ, W, env, A, S, ?_⟩
  cases e : f env with
  | ok r =>
    rw [e, Out.bind_ok] at h
    obtain ⟨d, env1⟩ := r
    exact fun W1 H1 A1 v S1 F1 r1 => n d W1 H1 env1 A1 v S1 F1 r1 (onS_fr h F1)
  | exc c d e' =>
    rw [e, Out.bind_exc] at h
    exact fun C W' H' A' dx v g S' F' x r' => h C W' H' A' σ dx v g S' F' x r'
  | bad => rw [e, Out.bind_bad] at h; exact h.elim
end

def sNext : SF := fun env => .ok (.nx, env)
def sBrk : SF := fun env => .ok (.bk, env)
def sCont : SF := fun env => .ok (.ct, env)
def sSeq (f g : SF) : SF := fun env => (f env).bind fun r => match r.1 with
  | .nx => g r.2
  | fl => .ok (fl, r.2)
def sSet (i : Nat) (f : XF) : SF := fun env => (f env).bind fun r => .ok (.nx, r.2.set i (.fz r.1))
def sDrop (f : XF) : SF := fun env => (f env).bind fun r => .ok (.nx, r.2)
def sRet (f : XF) : SF := fun env => (f env).bind fun r => .ok (.rt r.1, r.2)
def sRetN : SF := fun env => .ok (.rt .none, env)
def sIf (c : TF) (f g : SF) : SF := fun env => (c env).bind fun r => if r.1 = true then f r.2 else g r.2
section
variable {X : Cx} {Wx : WX} {a b c e : Expr} {st : Stmt} {rest ss ss' : List Stmt} {f g : XF} {tf : TF} {u v : SF} {pos : Pos}
theorem es_nil : EB X Wx [] sNext := by
  refine PSs.wk pss_nil ?_
  rintro D σ H ⟨ρ, W, env, A, S, h⟩
  exact h W H A σ S (Fr.refl _ _ _)
theorem es_pass : ES X Wx (.Pass pos) sNext := by
  refine PS.wk ps_pass ?_
  rintro D σ H ⟨ρ, W, env, A, S, h⟩
  exact h W H A σ S (Fr.refl _ _ _)
theorem es_doc {x j p2} : ES X Wx (.Expr (.Constant (.str x) j p2) pos) sNext := by
  refine PS.wk ps_doc ?_
  rintro D σ H ⟨ρ, W, env, A, S, h⟩
  exact h W H A σ S (Fr.refl _ _ _)
theorem es_break : ES X Wx (.Break pos) sBrk := by
  refine PS.wk ps_break ?_
  rintro D σ H ⟨ρ, W, env, A, S, h⟩
  exact h W H A σ S (Fr.refl _ _ _)
theorem es_continue : ES X Wx (.Continue pos) sCont := by
  refine PS.wk ps_continue ?_
  rintro D σ H ⟨ρ, W, env, A, S, h⟩
  exact h W H A σ S (Fr.refl _ _ _)
theorem es_one (h : ES X Wx st u) : EB X Wx [st] u := pss_one h
theorem es_seq (h : ES X Wx st u) (k : EB X Wx rest v) : EB X Wx (st :: rest) (sSeq u v) := by
  refine PSs.wk (pss_cons h k) ?_
  rintro D σ H ⟨ρ, W, env, A, S, h⟩
  refine ⟨ρ, W, env, A, S, ?_⟩
  unfold sSeq at h
  cases e : u env with
  | bad => rw [e] at h; exact h.elim
  | exc c d e' => rw [e] at h; exact h
  | ok r =>
    rw [e, Out.bind_ok] at h
    obtain ⟨fl, e1⟩ := r
    cases fl with
    | nx => exact fun W' H' A' σ' S' F' => ⟨ρ, W', e1, A', S', onS_fr h F'⟩
    | rt d => exact h
    | bk => exact h
    | ct => exact h
theorem es_ret (h : EX X Wx e f) : ES X Wx (.Return (some e) pos) (sRet f) := by
  refine PS.wk (ps_ret h) ?_
  rintro D σ H ⟨ρ, W, env, A, S, h⟩
  exact tS_then S h fun d W1 H1 env1 A1 v S1 F1 r1 h1 => h1 W1 H1 A1 σ S1 (Fr.refl _ _ _) v r1
theorem es_retN : ES X Wx (.Return none pos) sRetN := by
  refine PS.wk ps_retN ?_
  rintro D σ H ⟨ρ, W, env, A, S, h⟩
  exact h W H A σ S (Fr.refl _ _ _) _ rfl
theorem es_if (hc : ET X Wx c tf) (ha : EB X Wx ss u) (hb : EB X Wx ss' v) : ES X Wx (.If c ss ss' pos) (sIf tf u v) := by
  refine PS.wk (ps_if hc ha hb) ?_
  rintro D σ H ⟨ρ, W, env, A, S, h⟩
  refine tS_then S h fun d W1 H1 env1 A1 b S1 F1 r1 h1 => ?_
  subst r1
  cases b with
  | true => exact iteT ⟨ρ, W1, env1, A1, S1, h1⟩
  | false => exact iteF ⟨ρ, W1, env1, A1, S1, h1⟩
theorem es_drop (h : EX X Wx e f) (hs : swapsWith e none pos.line X.env = pure false := by rfl) : ES X Wx (.Expr e pos) (sDrop f) := by
  refine PS.wk (ps_expr h hs) ?_
  rintro D σ H ⟨ρ, W, env, A, S, h⟩
  exact tS_then S h fun d W1 H1 env1 A1 v S1 F1 r1 h1 => h1 W1 H1 A1 σ S1 (Fr.refl _ _ _)
theorem fr_nil {W H : Hp} {A : List (List Addr)} (i : Nat) : Fr W H (ownd A) W H (ownd (A.set i [])) := ⟨Same.refl _, fun _ _ h _ => h, fun _ h1 h2 => absurd h2 h1, fun _ h => .inl (ownd_nil h)⟩
theorem es_set {i : Nat} {x : Str} {p2 : Pos} (hN : X.N.Nodup) (hi : X.N[i]? = some x) (hx : Loc X.env.scope x) (h : EX X Wx e f) (hs : swapsWith e (some (.Name x p2)) pos.line X.env = pure false := by rfl)
    (hf : X.fn x = true ∨ X.env.scope.names.lookup x = some .local := by first | exact .inl rfl | exact .inr rfl | assumption) : ES X Wx (.Assign [.Name x p2] e pos) (sSet i f) := by
  refine PS.wk (ps_set hN hi hx h hs hf) ?_
  rintro D σ H ⟨ρ, W, env, A, S, h⟩
  exact tS_then S h fun d W1 H1 env1 A1 v S1 F1 r1 h1 => h1 W1 H1 _ _ (S1.setFz i r1) (fr_nil i)
end

/-! ### targets -/
abbrev GF := D → Ev → Option Ev
abbrev GLF := List D → Ev → Option Ev
def gN (i : Nat) : GF := fun d env => some (env.set i (.fz d))
def glNil : GLF := fun ds env => match ds with
  | [] => some env
  | _ => none
def glCons (g : GF) (k : GLF) : GLF := fun ds env => match ds with
  | [] => none
  | d :: r => (g d env).bind (k r)
def gT (k : GLF) : GF := fun d env => match d with
  | .tuple ds => k ds env
  | _ => none
/-- alike but for the slots vs -/
def Agr (vs : List Nat) (σ σ' : L2.St) : Prop := σ'.length = σ.length ∧ ∀ j : Nat, j ∉ vs → σ'[j]? = σ[j]?
theorem Agr.refl (vs : List Nat) (σ : L2.St) : Agr vs σ σ := ⟨rfl, fun _ _ => rfl⟩
theorem Agr.set {i : Nat} {σ : L2.St} {x : Option V} : Agr [i] σ (σ.set i x) := ⟨by simp, fun j hj => List.getElem?_set_ne (fun e => hj (by simp [e]))⟩
theorem Agr.trans {vs us : List Nat} {σ σ1 σ2 : L2.St} (a : Agr vs σ σ1) (b : Agr us σ1 σ2) : Agr (vs ++ us) σ σ2 :=
  ⟨b.1.trans a.1, fun j hj => (b.2 j fun h => hj (List.mem_append_right _ h)).trans (a.2 j fun h => hj (List.mem_append_left _ h))⟩
theorem Agr.mono {vs us : List Nat} {σ σ1 : L2.St} (a : Agr vs σ σ1) (h : ∀ j ∈ vs, j ∈ us) : Agr us σ σ1 := ⟨a.1, fun j hj => a.2 j fun z => hj (h j z)⟩
section
variable (X : Cx)
def tGt (vs : List Nat) (g : GF) : TG := fun v σ H Q => ∃ ρ W env A d env', SR X.K X.w ρ W H env σ A ∧ Rep X.K X.w W d v ∧ g d env = some env' ∧ ∀ σ' A', SR X.K X.w ρ W H env' σ' A' → (∀ p, ownd A' p → ownd A p) → Agr vs σ σ' → Q σ' H
def tGl (vs : List Nat) (g : GLF) : TGs := fun us σ H Q => ∃ ρ W env A ds env', SR X.K X.w ρ W H env σ A ∧ RepL X.K X.w W ds us ∧ g ds env = some env' ∧ ∀ σ' A', SR X.K X.w ρ W H env' σ' A' → (∀ p, ownd A' p → ownd A p) → Agr vs σ σ' → Q σ' H
end
abbrev EG (X : Cx) (t : Expr) (vs : List Nat) (g : GF) : Prop := PG X t (tGt X vs g)
abbrev EGs (X : Cx) (ts : List Expr) (vs : List Nat) (g : GLF) : Prop := PGs X ts (tGl X vs g)
theorem PG.wk {X : Cx} {e : Expr} {t t' : TG} (h : PG X e t) (k : ∀ v σ H Q, t' v σ H Q → t v σ H Q) : PG X e t' := ⟨fun pins s σ H v u Q I r q => h.run pins s σ H v u Q I r (k v σ H Q q)⟩
theorem PGs.wk {X : Cx} {es : List Expr} {t t' : TGs} (h : PGs X es t) (k : ∀ v σ H Q, t' v σ H Q → t v σ H Q) : PGs X es t' := ⟨fun pins s σ H v u Q I r q => h.run pins s σ H v u Q I r (k v σ H Q q)⟩
section
variable {X : Cx} {Wx : WX} {e : Expr} {es : List Expr} {vs us : List Nat} {g : GF} {k : GLF} {pos : Pos} {f : XF}
theorem eg_name {i : Nat} {x : Str} (hN : X.N.Nodup) (hi : X.N[i]? = some x) (hx : Loc X.env.scope x) (hf : X.fn x = true ∨ X.env.scope.names.lookup x = some .local := by first | exact .inl rfl | exact .inr rfl | assumption) : EG X (.Name x pos) [i] (gN i) := by
  refine PG.wk (pg_name hN hi hx hf) ?_
  rintro v σ H Q ⟨ρ, W, env, A, d, env', S, r, e, q⟩
  cases e
  exact q _ _ (S.setFz i r) (fun p h => ownd_nil h) Agr.set
theorem egs_nil : EGs X [] [] glNil := by
  refine PGs.wk pgs_nil ?_
  rintro vs σ H Q ⟨ρ, W, env, A, ds, env', S, r, e, q⟩
  unfold glNil at e
  split at e
  · cases e
    simp only [RepL] at r
    exact ⟨r, q σ A S (fun _ h => h) (Agr.refl _ _)⟩
  · cases e
theorem egs_cons (h : EG X e vs g) (t : EGs X es us k) (hs : (assignEach (e :: es) X.env).map (·.2) = assign e X.env :: (assignEach es X.env).map (·.2) := by rfl) : EGs X (e :: es) (vs ++ us) (glCons g k) := by
  refine PGs.wk (pgs_cons h t hs) ?_
  rintro ws σ H Q ⟨ρ, W, env, A, ds, env', S, r, e, q⟩
  unfold glCons at e
  split at e
  · cases e
  · rename_i d r'
    simp only [RepL] at r
    obtain ⟨v, vr, rfl, r1, r2⟩ := r
    obtain ⟨env1, e1, e2⟩ := Option.bind_eq_some_iff.mp e
    refine ⟨v, vr, rfl, ρ, W, env, A, d, env1, S, r1, e1, fun σ1 A1 S1 p1 a1 => ?_⟩
    exact ⟨ρ, W, env1, A1, r', env', S1, r2, e2, fun σ2 A2 S2 p2 a2 => q σ2 A2 S2 (fun p h => p1 p (p2 p h)) (a1.trans a2)⟩
theorem eg_tup {j : Nat} {n : Nat} (hc : X.calm = true) (h : EGs X es vs k) (hk : ∀ ds env, (k ds env).isSome = true → ds.length = n) (hn : (assignEach es X.env).length = n := by rfl) (hst : (assignEach es X.env).findIdx? (·.1) = none := by rfl) : EG X (.Tuple es j pos) vs (gT k) := by
  refine PG.wk (pg_tup hc h hn hst) ?_
  rintro v σ H Q ⟨ρ, W, env, A, d, env', S, r, e, q⟩
  cases d with
  | tuple ds =>
    simp only [Rep] at r
    obtain ⟨a, vs, rfl, q1, r1⟩ := r
    have e' : k ds env = some env' := e
    have hl := hk ds env (by rw [e']; rfl)
    exact ⟨a, vs, rfl, Same.sqt S.sub q1, r1.len.trans hl, ρ, W, env, A, ds, env', S, r1, e, q⟩
  | _ => cases e
theorem glNil_len (ds : List D) (env : Ev) (h : (glNil ds env).isSome = true) : ds.length = 0 := by
  cases ds with
  | nil => rfl
  | cons _ _ => cases h
theorem glCons_len {g : GF} {k : GLF} {n : Nat} (hk : ∀ ds env, (k ds env).isSome = true → ds.length = n) (ds : List D) (env : Ev) (h : (glCons g k ds env).isSome = true) : ds.length = n + 1 := by
  cases ds with
  | nil => cases h
  | cons d r =>
    have h' : ((g d env).bind (k r)).isSome = true := h
    cases e : g d env with
    | none => rw [e] at h'; cases h'
    | some e1 =>
      rw [e] at h'
      simp only [List.length_cons]
      rw [hk r e1 h']
/-- a, b = e: e is a tuple -/
def sAsg (g : GF) (f : XF) : SF := fun env => (f env).bind fun r => match g r.1 r.2 with
  | some e => .ok (.nx, e)
  | none => .bad
theorem fr_sub {W H : Hp} {A A' : List (List Addr)} (h : ∀ p, ownd A' p → ownd A p) : Fr W H (ownd A) W H (ownd A') := ⟨Same.refl _, fun _ _ h _ => h, fun _ h1 h2 => absurd h2 h1, fun p q => .inl (h p q)⟩
theorem es_asg {tg : Expr} (h : EX X Wx e f) (hg : EG X tg vs g) (hs : swapsWithSole [tg] e pos.line X.env = pure false := by rfl) (hw : swappedStores [tg] e X.env = pure none := by rfl)
    (h1 : (assignEach [tg] X.env).map (·.2) = [assign tg X.env] := by rfl) : ES X Wx (.Assign [tg] e pos) (sAsg g f) := by
  refine PS.wk (ps_asg h hg hs hw h1) ?_
  rintro D σ H ⟨ρ, W, env, A, S, h⟩
  refine tS_then S h fun d W1 H1 env1 A1 v S1 F1 r1 h1 => ?_
  simp only at h1
  cases e : g d env1 with
  | none => rw [e] at h1; exact h1.elim
  | some env2 =>
    rw [e] at h1
    exact ⟨ρ, W1, env1, A1, d, env2, S1, r1, e, fun σ2 A2 S2 p2 _ => h1 W1 H1 A2 σ2 S2 (fr_sub p2)⟩
end
end DP
set_option Elab.async false
set_option linter.all false
set_option maxRecDepth 100000
/-! DP, part 6: what is walked, for, while, comprehensions. -/
namespace DP
open PySem PySem.Spec PyProof.Rows L2

/-- J yields the data xs, whatever grows around it -/
structure Wk (K : PySem.W.Frag) (w : World) (W : Hp) (xs : List D) (J : It) : Prop where
  go : ∀ i H W2, Same W W2 → Same W2 H → i < xs.length → J.go i H
  stop : ∀ i H W2, Same W W2 → Same W2 H → xs.length ≤ i → J.stop i H
  yld : ∀ i H W2 v H' x, Same W W2 → Same W2 H → xs[i]? = some x → J.yld i H v H' → ∃ W', Ex W2 H W' H' ∧ Rep K w W' x v
abbrev IF := Ev → Out (List D × Ev)
abbrev tI (X : Cx) (Wx : WX) (f : IF) : TI := fun σ H R => tG X.K X.w X.mg Wx (fun W xs J => Wk X.K X.w W xs J) f σ H R
abbrev EI (X : Cx) (Wx : WX) (tg e : Expr) (f : IF) : Prop := PI X tg e (tI X Wx f)

/-! ### for -/
def forL (g : GF) (body : SF) : List D → SF
  | [], env => .ok (.nx, env)
  | x :: xs, env => match g x env with
    | none => .bad
    | some e1 => (body e1).bind fun r => match r.1 with
      | .nx => forL g body xs r.2
      | .ct => forL g body xs r.2
      | .bk => .ok (.nx, r.2)
      | .rt d => .ok (.rt d, r.2)
def sFor (it : IF) (g : GF) (body : SF) : SF := fun env => (it env).bind fun r => forL g body r.1 r.2

section
variable {X : Cx} {Wx : WX} {tg iter c : Expr} {body : List Stmt} {it : IF} {vs : List Nat} {g : GF} {b : SF} {tf : TF} {pos : Pos}
theorem es_for (hp : PassesOwn (model X.prog X.w) X.A X.env X.xe) (hc : X.calm = true) (hi : EI X Wx tg iter it) (hg : EG X tg vs g) (hb : EB X Wx body b)
    (hs : ∀ x, foldedSetIterable iter X.env x = pure x := by intro _; rfl) : ES X Wx (.For tg iter body [] pos) (sFor it g b) := by
  refine PS.wk (ps_for hp hc hi hg hb hs) ?_
  rintro D σ H ⟨ρ, W, env, A, S, h⟩
  refine tS_then S h fun xs W1 H1 env1 A1 J S1 F1 wk h1 => ?_
  refine ⟨fun i m σ H => m = xs.length - i ∧ i ≤ xs.length ∧ ∃ W2 env2 A2, SR X.K X.w ρ W2 H env2 σ A2 ∧ Same W1 W2 ∧ onS X Wx ρ W2 H A2 (forL g b (xs.drop i) env2) D,
    ⟨xs.length, by simp, Nat.zero_le _, W1, env1, A1, S1, Same.refl _, h1⟩, ?_⟩
  rintro i m σ2 H2 ⟨rfl, hi, W2, env2, A2, S2, s2, h2⟩
  by_cases hlt : i < xs.length
  · obtain ⟨x, hx⟩ : ∃ x, xs[i]? = some x := ⟨_, List.getElem?_eq_getElem hlt⟩
    have hd : xs.drop i = x :: xs.drop (i + 1) := by
      have e1 := List.drop_eq_getElem_cons hlt
      rw [List.getElem?_eq_getElem hlt] at hx
      cases hx
      exact e1
    rw [hd] at h2
    unfold forL at h2
    refine .inr ⟨wk.go i H2 W2 s2 S2.sub hlt, fun σ' H' => i + 1 ≤ xs.length ∧ ∃ W2 env2 A2, SR X.K X.w ρ W2 H' env2 σ' A2 ∧ Same W1 W2 ∧ onS X Wx ρ W2 H' A2 (forL g b (xs.drop (i + 1)) env2) D,
      fun σ' H' ⟨n1, n2⟩ => ⟨xs.length - (i + 1), by omega, rfl, n1, n2⟩, fun v H3 y => ?_⟩
    obtain ⟨W3, e3, r3⟩ := wk.yld i H2 W2 v H3 x s2 S2.sub hx y
    have S3 := S2.ex e3
    cases eg : g x env2 with
    | none => rw [eg] at h2; exact h2.elim
    | some env3 =>
      rw [eg] at h2
      simp only at h2
      refine ⟨ρ, W3, env2, A2, x, env3, S3, r3, eg, fun σ4 A4 S4 p4 _ => ⟨ρ, W3, env3, A4, S4, ?_⟩⟩
      have F4 : Fr W2 H2 (ownd A2) W3 H3 (ownd A4) := (e3.fr _).trans (fr_sub p4)
      have h4 := onS_fr h2 F4
      cases eb : b env3 with
      | bad => rw [eb] at h4; exact h4.elim
      | exc cc d e => rw [eb] at h4; exact h4
      | ok r =>
        obtain ⟨fl, env5⟩ := r
        rw [eb, Out.bind_ok] at h4
        cases fl with
        | nx => exact fun W5 H5 A5 σ5 S5 F5 => ⟨hlt, W5, env5, A5, S5, (s2.trans e3.ext).trans F5.ext, onS_fr h4 F5⟩
        | ct => exact fun W5 H5 A5 σ5 S5 F5 => ⟨hlt, W5, env5, A5, S5, (s2.trans e3.ext).trans F5.ext, onS_fr h4 F5⟩
        | bk => exact h4
        | rt d => exact h4
  · have ei : i = xs.length := by omega
    subst ei
    refine .inl ⟨wk.stop _ H2 W2 s2 S2.sub (Nat.le_refl _), ?_⟩
    rw [List.drop_length] at h2
    exact h2 W2 H2 A2 σ2 S2 (Fr.refl _ _ _)

/-! ### while -/
def whL (c : TF) (body : SF) : Nat → SF
  | 0, _ => .bad
  | n + 1, env => (c env).bind fun r => if r.1 = true then (body r.2).bind fun q => match q.1 with
      | .nx => whL c body n q.2
      | .ct => whL c body n q.2
      | .bk => .ok (.nx, q.2)
      | .rt d => .ok (.rt d, q.2) else .ok (.nx, r.2)
theorem es_while {n : Nat} (hp : PassesOwn (model X.prog X.w) X.A X.env X.xe) (hc : ET X Wx c tf) (hb : EB X Wx body b) : ES X Wx (.While c body [] pos) (whL tf b n) := by
  refine PS.wk (ps_while hp hc hb) ?_
  rintro D σ H ⟨ρ, W, env, A, S, h⟩
  refine ⟨fun m σ H => ∃ W2 env2 A2, SR X.K X.w ρ W2 H env2 σ A2 ∧ onS X Wx ρ W2 H A2 (whL tf b m env2) D, ⟨n, W, env, A, S, h⟩, ?_⟩
  rintro m σ1 H1 ⟨W1, env1, A1, S1, h1⟩
  cases m with
  | zero => exact h1.elim
  | succ m =>
    unfold whL at h1
    refine tS_then S1 h1 fun d W2 H2 env2 A2 k S2 F2 r2 h2 => ?_
    subst r2
    cases k with
    | false => exact iteF (h2 W2 H2 A2 σ1 S2 (Fr.refl _ _ _))
    | true =>
      refine iteT ⟨fun σ' H' => ∃ W2 env2 A2, SR X.K X.w ρ W2 H' env2 σ' A2 ∧ onS X Wx ρ W2 H' A2 (whL tf b m env2) D, fun σ' H' q => ⟨m, Nat.lt_succ_self m, q⟩, ρ, W2, env2, A2, S2, ?_⟩
      simp only [if_true] at h2
      cases eb : b env2 with
      | bad => rw [eb] at h2; exact h2.elim
      | exc cc d e => rw [eb] at h2; exact h2
      | ok r =>
        obtain ⟨fl, env5⟩ := r
        rw [eb, Out.bind_ok] at h2
        cases fl with
        | nx => exact fun W5 H5 A5 σ5 S5 F5 => ⟨W5, env5, A5, S5, onS_fr h2 F5⟩
        | ct => exact fun W5 H5 A5 σ5 S5 F5 => ⟨W5, env5, A5, S5, onS_fr h2 F5⟩
        | bk => exact h2
        | rt d => exact h2
end

/-! ### comprehensions -/
/-- slots forgotten -/
def wipeE (e : Ev) : List Nat → Ev
  | [] => e
  | v :: vs => (wipeE e vs).set v .no
def wipeA (A : List (List Addr)) : List Nat → List (List Addr)
  | [] => A
  | v :: vs => (wipeA A vs).set v []
/-- .. and back, as they were -/
def backE (e0 e : Ev) : List Nat → Ev
  | [] => e
  | v :: vs => (backE e0 e vs).set v (match e0[v]? with
    | some (.fz d) => .fz d
    | _ => .no)
def cmpL (g : GF) (ts : TF) (el : XF) (vs : List Nat) : List D → Ev → Out (List D × Ev)
  | [], env => .ok ([], env)
  | x :: xs, env => match g x env with
    | none => .bad
    | some e1 => (ts e1).bind fun t => if t.1 = true then (el t.2).bind fun y => (cmpL g ts el vs xs (wipeE y.2 vs)).bind fun r => .ok (y.1 :: r.1, r.2) else cmpL g ts el vs xs (wipeE t.2 vs)
/-- the items of a comprehension -/
def lComp (it : IF) (g : GF) (ts : TF) (el : XF) (vs : List Nat) : AF := fun env => (it env).bind fun r => match cmpL g ts el vs r.1 (wipeE r.2 vs) with
  | .ok (ds, e) => if ds.length ≤ sizeLine then .ok (ds, backE r.2 e vs) else .bad
  | _ => .bad
def xComp (it : IF) (g : GF) (ts : TF) (el : XF) (vs : List Nat) : XF := fun env => (lComp it g ts el vs env).bind fun r => .ok (.list r.1, r.2)

section
variable {K : PySem.W.Frag} {w : World} {ρ : Nat → Addr} {W H : Hp} {env e0 : Ev} {σ σ' : L2.St} {A : List (List Addr)} {vs : List Nat}
theorem SR.wipe (S : SR K w ρ W H env σ A) : ∀ vs : List Nat, SR K w ρ W H (wipeE env vs) (L2.wipe σ vs) (wipeA A vs)
  | [] => S
  | v :: vs => (SR.wipe S vs).setNo v none
theorem ownd_wipe {p : Addr} : ∀ {vs : List Nat}, ownd (wipeA A vs) p → ownd A p
  | [], h => h
  | _ :: _, h => ownd_wipe (ownd_nil h)
theorem wipe_out {σ : L2.St} {j : Nat} : ∀ vs : List Nat, j ∉ vs → (L2.wipe σ vs)[j]? = σ[j]?
  | [], _ => rfl
  | v :: vs, h => by
    unfold L2.wipe
    rw [List.getElem?_set_ne (fun e => h (by rw [e]; exact List.mem_cons_self)), wipe_out vs fun z => h (List.mem_cons_of_mem _ z)]
theorem wipe_in {σ : L2.St} {j : Nat} (hl : j < σ.length) : ∀ vs : List Nat, j ∈ vs → (L2.wipe σ vs)[j]? = some none
  | v :: vs, h => by
    unfold L2.wipe
    by_cases e : v = j
    · rw [e, List.getElem?_set_self (by rw [wipe_length]; exact hl)]
    · rw [List.getElem?_set_ne e]
      exact wipe_in hl vs ((List.mem_cons.mp h).resolve_left fun z => e z.symm)
theorem wipe_agr {us : List Nat} (h : Agr us σ σ') (hv : ∀ j ∈ us, j ∈ vs) : L2.wipe σ' vs = L2.wipe σ vs := by
  refine List.ext_getElem? fun j => ?_
  by_cases hm : j ∈ vs
  · by_cases hl : j < σ.length
    · rw [wipe_in hl vs hm, wipe_in (by rw [h.1]; exact hl) vs hm]
    · rw [List.getElem?_eq_none (by rw [wipe_length, h.1]; omega), List.getElem?_eq_none (by rw [wipe_length]; omega)]
  · rw [wipe_out vs hm, wipe_out vs hm]
    exact h.2 j fun z => hm (hv j z)
theorem wipe_wipe (vs : List Nat) : L2.wipe (L2.wipe σ vs) vs = L2.wipe σ vs := wipe_agr (us := vs) ⟨wipe_length _ _, fun j hj => wipe_out vs hj⟩ fun _ h => h
def backS (σ τ : L2.St) : List Nat → L2.St
  | [] => τ
  | v :: vs => (backS σ τ vs).set v (σ[v]?.getD none)
theorem backS_len {τ : L2.St} : ∀ vs : List Nat, (backS σ τ vs).length = τ.length
  | [] => rfl
  | v :: vs => by unfold backS; rw [List.length_set, backS_len vs]
theorem backS_out {τ : L2.St} {j : Nat} : ∀ vs : List Nat, j ∉ vs → (backS σ τ vs)[j]? = τ[j]?
  | [], _ => rfl
  | v :: vs, h => by
    unfold backS
    rw [List.getElem?_set_ne (fun e => h (by rw [e]; exact List.mem_cons_self)), backS_out vs fun z => h (List.mem_cons_of_mem _ z)]
theorem backS_in {τ : L2.St} {j : Nat} (hl : j < τ.length) (hs : j < σ.length) : ∀ vs : List Nat, j ∈ vs → (backS σ τ vs)[j]? = σ[j]?
  | v :: vs, h => by
    unfold backS
    by_cases e : v = j
    · subst e
      rw [List.getElem?_set_self (by rw [backS_len]; exact hl), List.getElem?_eq_getElem hs]
      rfl
    · rw [List.getElem?_set_ne e]
      exact backS_in hl hs vs ((List.mem_cons.mp h).resolve_left fun z => e z.symm)
theorem backS_eq {τ : L2.St} (hl : τ.length = σ.length) (h : ∀ j, j ∉ vs → τ[j]? = σ[j]?) : backS σ τ vs = σ := by
  refine List.ext_getElem? fun j => ?_
  by_cases hm : j ∈ vs
  · by_cases hj : j < σ.length
    · exact backS_in (by omega) hj vs hm
    · rw [List.getElem?_eq_none (by rw [backS_len]; omega), List.getElem?_eq_none (by omega)]
  · rw [backS_out vs hm]
    exact h j hm
/-- behind a comprehension: the def's own slots again -/
theorem SR.back {W0 H0 : Hp} {A0 : List (List Addr)} (S : SR K w ρ W H env (L2.wipe σ vs) A) (S0 : SR K w ρ W0 H0 e0 σ A0) (e : Same W0 W) : SR K w ρ W H (backE e0 env vs) σ (wipeA A vs) := by
  have go : ∀ us : List Nat, SR K w ρ W H (backE e0 env us) (backS σ (L2.wipe σ vs) us) (wipeA A us) := by
    intro us
    induction us with
    | nil => exact S
    | cons v us ih =>
      unfold backE backS wipeA
      cases q : e0[v]? with
      | none => exact ih.setNo v _
      | some sl =>
        cases sl with
        | no => exact ih.setNo v _
        | ow t c => exact ih.setNo v _
        | sc ns => exact ih.setNo v _
        | fz d =>
          obtain ⟨x, l, h1, h2, h3⟩ := S0.at q
          obtain ⟨_, y, rfl, r⟩ := h3
          rw [h1]
          exact ih.setFz v (Rep.mono e d y r)
  have q := go vs
  rwa [backS_eq (wipe_length σ vs) fun j hj => wipe_out vs hj] at q
end
end DP
set_option Elab.async false
set_option linter.all false
set_option maxRecDepth 100000
/-! DP, part 7: new containers; displays; list comprehensions. -/
namespace DP
open PySem PySem.Spec PyProof.Rows L2

section
variable (K : PySem.W.Frag) (w : World) (mg : Str → Option Value) (Wx : WX)
/-- what is wanted of an outcome that is a new container, nobody's yet -/
def onN (ρ : Nat → Addr) (σ : L2.St) (W H : Hp) (A : List (List Addr)) (o : Out (D × Ev)) (Q : VK) : Prop :=
  match o with
  | .ok (c, env') => ∀ W' H' A' p, SR K w ρ W' H' env' σ A' → Fr W H (ownd A) W' H' (ownd A') → W' p = none → Own K w W' H' c p → ¬ ownd A' p → (ownd A p ∨ H p = none) → Q (.ref p) H'
  | .exc c d env' => ∀ C W' H' A' dx v, mg c = some (.ref C) → SR K w ρ W' H' env' σ A' → Fr W H (ownd A) W' H' (ownd A') → H' dx = some (.xd [("at", v)]) → Rep K w W' d v → Wx (.ref C) (some dx) σ H'
  | .bad => False
end
abbrev tN (X : Cx) (Wx : WX) (f : XF) : TE := fun σ H Q => ∃ ρ W env A, SR X.K X.w ρ W H env σ A ∧ onN X.K X.w X.mg Wx ρ σ W H A (f env) Q
/-- e makes a new container -/
abbrev EN (X : Cx) (Wx : WX) (e : Expr) (f : XF) : Prop := PE X e (tN X Wx f)
/-- a new container, frozen at once -/
theorem Own.freeze {K : PySem.W.Frag} {w : World} {W H : Hp} {c : D} {p : Addr} (h : Own K w W H c p) (e : Same W H) (n : W p = none) :
    ∃ W', Same W W' ∧ Same W' H ∧ Rep K w W' c (.ref p) ∧ (∀ b, b ≠ p → W' b = W b) ∧ W' p = H p := by
  obtain ⟨o, ho, r, sb⟩ := h.lay e n
  exact ⟨upd W p o, fun b u q => by rw [upd_ne (ne_of_none q n)]; exact q, sb, r, fun b hb => upd_ne hb, by rw [upd_same, ho]⟩
theorem EN.ex {X : Cx} {Wx : WX} {e : Expr} {f : XF} (h : EN X Wx e f) : EX X Wx e f := by
  refine PE.wk h ?_
  rintro σ H Q ⟨ρ, W, env, A, S, h⟩
  refine ⟨ρ, W, env, A, S, ?_⟩
  cases ef : f env with
  | bad => rw [ef] at h; exact h.elim
  | exc c d e => rw [ef] at h; exact h
  | ok r =>
    obtain ⟨c, env1⟩ := r
    rw [ef] at h
    intro W1 H1 A1 p S1 F1 n1 o1 n2 n3
    obtain ⟨W2, s1, s2, r2, k2, kp⟩ := o1.freeze S1.sub n1
    refine h W2 H1 A1 _ (S1.keep s1 s2 fun b hb => ⟨rfl, ?_⟩) ⟨F1.ext.trans s1, F1.keep, fun b h1 h2 => ?_, F1.own⟩ r2
    · rw [k2 b fun e => n2 (e ▸ hb)]
      exact (S1.own hb).1
    · by_cases hb : b = p
      · subst hb; exact n3
      · rw [k2 b hb] at h1
        exact F1.new b h1 h2
section
variable (K : PySem.W.Frag) (w : World)
/-- .. as an operation's result -/
def onW (W H : Hp) (o : Option D) (Q : VK) : Prop := match o with
  | some c => ∀ W' H' p, Ex W H W' H' → W' p = none → Own K w W' H' c p → H p = none → Q (.ref p) H'
  | none => False
def tW1 (op : D → Option D) : V → Hp → VK → Prop := fun v H Q => ∃ W x, Same W H ∧ Rep K w W x v ∧ onW K w W H (op x) Q
def tW2 (op : D → D → Option D) : V → V → Hp → VK → Prop := fun v u H Q => ∃ W x y, Same W H ∧ Rep K w W x v ∧ Rep K w W y u ∧ onW K w W H (op x y) Q
def tWn (op : List D → Option D) : List V → Hp → VK → Prop := fun vs H Q => ∃ W xs, Same W H ∧ RepL K w W xs vs ∧ onW K w W H (op xs) Q
end
section
variable {K : PySem.W.Frag} {w : World} {W H : Hp} {Q : VK}
theorem onW.of_onV {o : Option D} (h : onV K w W H o Q) : onW K w W H o Q := by
  cases o with
  | none => exact h
  | some c =>
    intro W1 H1 p e n o1 n3
    obtain ⟨W2, s1, s2, r2, k2, kp⟩ := o1.freeze e.sub n
    refine h W2 H1 _ ⟨e.ext.trans s1, e.keep, s2, fun b h1 h2 => ?_⟩ r2
    by_cases hb : b = p
    · subst hb; exact n3
    · rw [k2 b hb] at h1
      exact e.new b h1 h2
theorem tW1.of {op : D → Option D} {v : V} (h : tV1 K w op v H Q) : tW1 K w op v H Q := by
  obtain ⟨W, x, s, r, h⟩ := h
  exact ⟨W, x, s, r, onW.of_onV h⟩
theorem tW2.of {op : D → D → Option D} {v u : V} (h : tV2 K w op v u H Q) : tW2 K w op v u H Q := by
  obtain ⟨W, x, y, s, r, r', h⟩ := h
  exact ⟨W, x, y, s, r, r', onW.of_onV h⟩
theorem tWn.of {op : List D → Option D} {vs : List V} (h : tVn K w op vs H Q) : tWn K w op vs H Q := by
  obtain ⟨W, x, s, r, h⟩ := h
  exact ⟨W, x, s, r, onW.of_onV h⟩
/-- a new list on top of what stands -/
theorem onW.lst {zs : List D} {vs : List V} {p : Addr} (h : onW K w W H (some (.list zs)) Q) (s : Same W H) (r : RepL K w W zs vs) (n : H p = none) : Q (.ref p) (upd H p (.lst vs)) :=
  h W _ p (Ex.junk s n) (s.free n) ⟨vs, upd_same, r⟩ n
end
section
variable {X : Cx} {Wx : WX} {ρ : Nat → Addr} {σ : L2.St} {W H : Hp} {A : List (List Addr)} {env : Ev} {Q : VK}
theorem onN_fr {W1 H1 : Hp} {A1 : List (List Addr)} {o : Out (D × Ev)} (h : onN X.K X.w X.mg Wx ρ σ W H A o Q) (F : Fr W H (ownd A) W1 H1 (ownd A1)) : onN X.K X.w X.mg Wx ρ σ W1 H1 A1 o Q := by
  cases o with
  | bad => exact h
  | exc c d e => exact fun C W' H' A' dx v g S' F' x r' => h C W' H' A' dx v g S' (F.trans F') x r'
  | ok r =>
    intro W' H' A' p S' F' n o k z
    refine h W' H' A' p S' (F.trans F') n o k ?_
    rcases z with z | z
    · exact F.own p z
    · cases q : H p with
      | none => exact .inr rfl
      | some u =>
        by_cases hp : ownd A p
        · exact .inl hp
        · have := F.keep p u q hp
          rw [z] at this; cases this
/-- a step ahead of a new container -/
theorem tN_then {α β : Type} {R : Hp → α → β → Prop} {f : Ev → Out (α × Ev)} {k : α × Ev → Out (D × Ev)} {Q' : β → Hp → Prop}
    (S : SR X.K X.w ρ W H env σ A) (h : onN X.K X.w X.mg Wx ρ σ W H A ((f env).bind k) Q)
    (n : ∀ d W1 H1 env1 A1 v, SR X.K X.w ρ W1 H1 env1 σ A1 → Fr W H (ownd A) W1 H1 (ownd A1) → R W1 d v → onN X.K X.w X.mg Wx ρ σ W1 H1 A1 (k (d, env1)) Q → Q' v H1) : tG X.K X.w X.mg Wx R f σ H Q' := by
  refine ⟨ρ, W, env, A, S, ?_⟩
  cases e : f env with
  | ok r =>
    rw [e, Out.bind_ok] at h
    obtain ⟨d, env1⟩ := r
    exact fun W1 H1 A1 v S1 F1 r1 => n d W1 H1 env1 A1 v S1 F1 r1 (onN_fr h F1)
  | exc c d e' => rw [e, Out.bind_exc] at h; exact h
  | bad => rw [e, Out.bind_bad] at h; exact h.elim
/-- the operation that makes it -/
theorem onW_of {o : Option D} (S : SR X.K X.w ρ W H env σ A) (h : onN X.K X.w X.mg Wx ρ σ W H A (liftO o env) Q) : onW X.K X.w W H o Q := by
  cases o with
  | none => exact h
  | some c =>
    intro W' H' p e n o1 z
    refine h W' H' A p (S.ex e) (e.fr _) n o1 (fun hp => ?_) (.inr z)
    obtain ⟨_, u, hu⟩ := S.own hp
    rw [z] at hu; cases hu
end

/-! ### displays -/
def xTup (f : AF) : XF := xn (fun ds => if ds.length ≤ sizeLine then some (.tuple ds) else none) f
def xLst (f : AF) : XF := xn (fun ds => if ds.length ≤ sizeLine then some (.list ds) else none) f
section
variable {X : Cx} {Wx : WX} {es : List Expr} {f : AF} {pos : Pos}
theorem ex_tup {k : Nat} (h : EA X Wx es f) : EX X Wx (.Tuple es k pos) (xTup f) := by
  refine PE.wk (pe_tup h) ?_
  rintro σ H Q ⟨ρ, W, env, A, S, h⟩
  refine tG_then S h fun ds W1 H1 env1 A1 vs S1 F1 r1 h1 => ?_
  have h2 := onV_of S1 h1
  dsimp only at h2
  split at h2
  · rename_i c
    exact ⟨by rw [r1.len]; exact c, fun p n => h2.tup S1.sub r1 n⟩
  · exact h2.elim
theorem en_lst (h : EA X Wx es f) : EN X Wx (.List es pos) (xLst f) := by
  refine PE.wk (pe_lst h) ?_
  rintro σ H Q ⟨ρ, W, env, A, S, h⟩
  refine tN_then S h fun ds W1 H1 env1 A1 vs S1 F1 r1 h1 => ?_
  have h2 := onW_of S1 h1
  dsimp only at h2
  split at h2
  · rename_i c
    exact ⟨by rw [r1.len]; exact c, fun p n => h2.lst S1.sub r1 n⟩
  · exact h2.elim
theorem ex_lst (h : EA X Wx es f) : EX X Wx (.List es pos) (xLst f) := (en_lst h).ex
/-- name = a new container -/
def sOwn (i : Nat) (f : XF) : SF := fun env => (f env).bind fun r => .ok (.nx, r.2.set i (.ow none r.1))
theorem es_own {i : Nat} {x : Str} {e : Expr} {p2 : Pos} {f : XF} (hN : X.N.Nodup) (hi : X.N[i]? = some x) (hx : Loc X.env.scope x) (h : EN X Wx e f) (hs : swapsWith e (some (.Name x p2)) pos.line X.env = pure false := by rfl)
    (hf : X.fn x = true ∨ X.env.scope.names.lookup x = some .local := by first | exact .inl rfl | exact .inr rfl | assumption) : ES X Wx (.Assign [.Name x p2] e pos) (sOwn i f) := by
  refine PS.wk (ps_set hN hi hx h hs hf) ?_
  rintro D σ H ⟨ρ, W, env, A, S, h⟩
  refine ⟨ρ, W, env, A, S, ?_⟩
  unfold sOwn at h
  cases e : f env with
  | bad => rw [e] at h; exact h.elim
  | exc c d e' =>
    rw [e] at h
    exact fun C W' H' A' dx v g S' F' x r' => h C W' H' A' σ dx v g S' F' x r'
  | ok r =>
    rw [e] at h
    obtain ⟨c, env1⟩ := r
    intro W1 H1 A1 p S1 F1 n1 o1 n2 n3
    refine h W1 H1 (A1.set i [p]) _ (S1.put i ⟨p, rfl, rfl, n1, o1, fun _ z => nomatch z⟩ fun j l b hj hl hb => ?_) ⟨F1.ext, F1.keep, F1.new, fun b hb => ?_⟩
    · intro hm
      have e : b = p := by simpa using hm
      subst e
      exact n2 ⟨j, l, hl, hb⟩
    · rcases ownd_put hb with z | z
      · have e : b = p := by simpa using z
        subst e
        exact n3
      · exact F1.own b z
end

/-! ### list comprehensions -/
def tTrue : TF := fun env => .ok (true, env)
abbrev EQ (X : Cx) (Wx : WX) (ifs : List Expr) (f : TF) : Prop := PTs X ifs (tT X Wx f)
theorem eq_nil {X : Cx} {Wx : WX} : EQ X Wx [] tTrue := by
  refine ⟨fun pins s σ H Q I q => pts_nil.run pins s σ H Q I ?_⟩
  obtain ⟨ρ, W, env, A, S, h⟩ := q
  exact h W H A true S (Fr.refl _ _ _) rfl
theorem eq_one {X : Cx} {Wx : WX} {c : Expr} {f : TF} (h : ET X Wx c f) : EQ X Wx [c] f := pts_one h

abbrev Wx0 : WX := fun _ _ _ _ => False
/-- a step of which nothing but a value is known to come -/
theorem step0 {α β γ : Type} {K : PySem.W.Frag} {w : World} {mg : Str → Option Value} {Wx : WX} {R : Hp → α → β → Prop} {ρ : Nat → Addr} {σ : L2.St} {W H : Hp} {A : List (List Addr)} {env : Ev} {f : Ev → Out (α × Ev)} {k : α × Ev → Out γ} {r : γ} {Q' : β → Hp → Prop}
    (S : SR K w ρ W H env σ A) (h : (f env).bind k = .ok r)
    (n : ∀ d W1 H1 env1 A1 v, SR K w ρ W1 H1 env1 σ A1 → Fr W H (ownd A) W1 H1 (ownd A1) → R W1 d v → k (d, env1) = .ok r → Q' v H1) : tG K w mg Wx R f σ H Q' := by
  refine ⟨ρ, W, env, A, S, ?_⟩
  cases e : f env with
  | ok q =>
    rw [e, Out.bind_ok] at h
    obtain ⟨d, env1⟩ := q
    exact fun W1 H1 A1 v S1 F1 r1 => n d W1 H1 env1 A1 v S1 F1 r1 h
  | exc c d e' => rw [e] at h; cases h
  | bad => rw [e] at h; cases h
theorem RepL.snoc {K : PySem.W.Frag} {w : World} {W : Hp} {ds : List D} {vs : List V} {d : D} {v : V} (h : RepL K w W ds vs) (r : Rep K w W d v) : RepL K w W (ds ++ [d]) (vs ++ [v]) := h.append (RepL.cons r RepL.nil)
section
variable {X : Cx} {Wx : WX} {it : IF} {g : GF} {ts : TF} {el : XF} {us vs : List Nat} {σ : L2.St} {H : Hp} {Q : VK}
/-- ONE TURN'S END AND ALL: the reading of [elt for target in iter if ..] -/
theorem comp_read (hus : ∀ j ∈ us, j ∈ vs) (h : tN X Wx (xComp it g ts el vs) σ H Q) : tLc (tI X Wx it) (tGt X us g) (tT X Wx0 ts) (tX X Wx0 el) vs σ H Q := by
  obtain ⟨ρ, W, env, A, S, h⟩ := h
  unfold xComp lComp at h
  have hb : ∀ {α β γ : Type} (o : Out α) (f : α → Out β) (k : β → Out γ), (o.bind f).bind k = o.bind fun a => (f a).bind k := by
    intro α β γ o f k; cases o <;> rfl
  rw [hb] at h
  refine tN_then S h fun xs W1 H1 env1 A1 J S1 F1 wk h1 => ?_
  intro L nL
  cases ec : cmpL g ts el vs xs (wipeE env1 vs) with
  | bad => rw [ec] at h1; exact h1.elim
  | exc c d e => rw [ec] at h1; exact h1.elim
  | ok r =>
    obtain ⟨ds, envE⟩ := r
    simp only [ec] at h1
    by_cases hz : ds.length ≤ sizeLine
    · rw [if_pos hz] at h1
      have nW : W1 L = none := S1.sub.free nL
      have oL : ¬ ownd A1 L := fun z => by
        obtain ⟨_, u, hu⟩ := S1.own z
        rw [nL] at hu; cases hu
      have S2 : SR X.K X.w ρ W1 (upd H1 L (.lst [])) env1 σ A1 := S1.ex (Ex.junk S1.sub nL)
      refine ⟨fun i m H => m = xs.length - i ∧ i ≤ xs.length ∧ ∃ W2 env2 A2 done rest acc, SR X.K X.w ρ W2 H env2 (L2.wipe σ vs) A2 ∧ Fr W1 H1 (ownd A1) W2 H (ownd A2) ∧ W2 L = none ∧ ¬ ownd A2 L ∧ H L = some (.lst acc) ∧ RepL X.K X.w W2 done acc ∧
          done ++ rest = ds ∧ cmpL g ts el vs (xs.drop i) env2 = .ok (rest, envE),
        ⟨xs.length, by simp, Nat.zero_le _, W1, _, _, [], ds, [], S2.wipe vs, ((Ex.junk S1.sub nL).fr _).trans (fr_sub fun p h => ownd_wipe h), nW, fun z => oL (ownd_wipe z), upd_same, RepL.nil, rfl, ec⟩, ?_⟩
      rintro i m H2 ⟨rfl, hi, W2, env2, A2, done, rest, acc, S3, F3, n3, o3, e3, r3, eq3, c3⟩
      by_cases hlt : i < xs.length
      · obtain ⟨x, hx⟩ : ∃ x, xs[i]? = some x := ⟨_, List.getElem?_eq_getElem hlt⟩
        have hd : xs.drop i = x :: xs.drop (i + 1) := by
          have e1 := List.drop_eq_getElem_cons hlt
          rw [List.getElem?_eq_getElem hlt] at hx
          cases hx
          exact e1
        rw [hd] at c3
        unfold cmpL at c3
        refine .inr ⟨wk.go i H2 W2 F3.ext S3.sub hlt, fun H => i + 1 ≤ xs.length ∧ ∃ W2 env2 A2 done rest acc, SR X.K X.w ρ W2 H env2 (L2.wipe σ vs) A2 ∧ Fr W1 H1 (ownd A1) W2 H (ownd A2) ∧ W2 L = none ∧ ¬ ownd A2 L ∧ H L = some (.lst acc) ∧ RepL X.K X.w W2 done acc ∧
            done ++ rest = ds ∧ cmpL g ts el vs (xs.drop (i + 1)) env2 = .ok (rest, envE), fun H' ⟨q1, q2⟩ => ⟨xs.length - (i + 1), by omega, rfl, q1, q2⟩, fun v H4 y => ?_⟩
        obtain ⟨W4, e4, r4⟩ := wk.yld i H2 W2 v H4 x F3.ext S3.sub hx y
        have S4 := S3.ex e4
        have L4 : H4 L = some (.lst acc) := e4.keep _ _ e3
        have n4 : W4 L = none := by
          cases z : W4 L with
          | none => rfl
          | some u =>
            have q := e4.new L (by rw [z]; exact fun z => nomatch z) n3
            rw [e3] at q; cases q
        cases eg : g x env2 with
        | none => rw [eg] at c3; cases c3
        | some env5 =>
          rw [eg] at c3
          simp only at c3
          refine ⟨ρ, W4, env2, A2, x, env5, S4, r4, eg, fun σ5 A5 S5 p5 a5 => ⟨?_, ?_⟩⟩
          · rw [wipe_agr a5 hus, wipe_wipe]
          · have ws : L2.wipe σ5 vs = L2.wipe σ vs := by rw [wipe_agr a5 hus, wipe_wipe]
            have F5 : Fr W1 H1 (ownd A1) W4 H4 (ownd A5) := F3.trans ((e4.fr _).trans (fr_sub p5))
            have l5 : ¬ ownd A5 L := fun z => o3 (p5 L z)
            -- what a step that is not L's owner leaves of L
            have stay : ∀ {W' H' : Hp} {A' : List (List Addr)}, Fr W4 H4 (ownd A5) W' H' (ownd A') → H' L = some (.lst acc) ∧ W' L = none ∧ ¬ ownd A' L := fun {W' H' A'} F => by
              refine ⟨F.keep L _ L4 l5, ?_, fun z => ?_⟩
              · cases z : W' L with
                | none => rfl
                | some u =>
                  rcases F.new L (by rw [z]; exact fun z => nomatch z) n4 with q | q
                  · exact absurd q l5
                  · rw [L4] at q; cases q
              · rcases F.own L z with q | q
                · exact l5 q
                · rw [L4] at q; cases q
            refine step0 S5 c3 fun b W6 H6 env6 A6 k S6 F6 r6 c6 => ?_
            subst r6
            cases k with
            | false =>
              simp only [Bool.false_eq_true, if_false] at c6
              obtain ⟨q1, q2, q3⟩ := stay F6
              have S7 := S6.wipe vs
              rw [ws] at S7
              exact iteF ⟨hlt, W6, _, _, done, rest, acc, S7, F5.trans (F6.trans (fr_sub fun p h => ownd_wipe h)), q2, fun z => q3 (ownd_wipe z), q1, RepL.mono (e4.ext.trans F6.ext) _ _ r3, eq3, c6⟩
            | true =>
              simp only [if_true] at c6
              refine iteT (step0 S6 c6 fun d W7 H7 env7 A7 v7 S7 F7 r7 c7 => ?_)
              have F67 := F6.trans F7
              obtain ⟨q1, q2, q3⟩ := stay F67
              cases ed : cmpL g ts el vs (xs.drop (i + 1)) (wipeE env7 vs) with
              | bad => rw [ed] at c7; cases c7
              | exc c d' e => rw [ed] at c7; cases c7
              | ok rr =>
                obtain ⟨rest', envE'⟩ := rr
                rw [ed, Out.bind_ok] at c7
                have c8 : d :: rest' = rest ∧ envE' = envE := by
                  injection c7 with c7
                  injection c7 with c7 c9
                  exact ⟨c7, c9⟩
                obtain ⟨c8, c9⟩ := c8
                subst c9
                have hlen : acc.length < sizeLine := by
                  rw [r3.len]
                  have e1 := congrArg List.length eq3
                  rw [List.length_append, ← c8, List.length_cons] at e1
                  omega
                have S8 : SR X.K X.w ρ W7 (upd H7 L (.lst (acc ++ [v7]))) env7 σ5 A7 := by
                  refine S7.keep (Same.refl _) (fun b u q => ?_) fun b hb => ⟨upd_ne fun e => q3 (e ▸ hb), (S7.own hb).1⟩
                  rw [upd_ne (fun e => by rw [e, q2] at q; cases q)]
                  exact S7.sub b u q
                have S9 := S8.wipe vs
                rw [ws] at S9
                refine ⟨acc, q1, hlen, hlt, W7, _, _, done ++ [d], rest', acc ++ [v7], S9, ?_, q2, fun z => q3 (ownd_wipe z), upd_same, RepL.snoc (RepL.mono (e4.ext.trans F67.ext) _ _ r3) r7, by rw [List.append_assoc]; exact (by rw [← eq3, ← c8]; rfl), ed⟩
                have F8 := F5.trans F67
                refine ⟨F8.ext, fun b u hb hp => ?_, F8.new, fun b hb => F8.own b (ownd_wipe hb)⟩
                have e : b ≠ L := fun e => by rw [e, nL] at hb; cases hb
                rw [upd_ne e]
                exact F8.keep b u hb hp
      · have ei : i = xs.length := by omega
        subst ei
        refine .inl ⟨wk.stop _ H2 W2 F3.ext S3.sub (Nat.le_refl _), ?_⟩
        rw [List.drop_length] at c3
        unfold cmpL at c3
        have c4 : rest = [] ∧ env2 = envE := by
          injection c3 with c3
          injection c3 with c3 c5
          exact ⟨c3.symm, c5⟩
        obtain ⟨rfl, rfl⟩ := c4
        rw [List.append_nil] at eq3
        subst eq3
        exact h1 W2 H2 _ L (SR.back S3 S1 F3.ext) (F3.trans (fr_sub fun p h => ownd_wipe h)) n3 ⟨acc, e3, r3⟩ (fun z => o3 (ownd_wipe z)) (.inr nL)
    · rw [if_neg hz] at h1
      exact h1.elim
theorem tX_tN {f : XF} (h : tX X Wx f σ H Q) : tN X Wx f σ H Q := by
  obtain ⟨ρ, W, env, A, S, h⟩ := h
  refine ⟨ρ, W, env, A, S, ?_⟩
  cases ef : f env with
  | bad => rw [ef] at h; exact h.elim
  | exc c d e => rw [ef] at h; exact h
  | ok r =>
    obtain ⟨c, env1⟩ := r
    rw [ef] at h
    intro W1 H1 A1 p S1 F1 n1 o1 n2 n3
    obtain ⟨W2, s1, s2, r2, k2, kp⟩ := o1.freeze S1.sub n1
    refine h W2 H1 A1 _ (S1.keep s1 s2 fun b hb => ⟨rfl, ?_⟩) ⟨F1.ext.trans s1, F1.keep, fun b h1 h2 => ?_, F1.own⟩ r2
    · rw [k2 b fun e => n2 (e ▸ hb)]
      exact (S1.own hb).1
    · by_cases hb : b = p
      · subst hb; exact n3
      · rw [k2 b hb] at h1
        exact F1.new b h1 h2
theorem set_read {i : Nat} {f : XF} {D : Ends} (h : tS X Wx (sSet i f) D σ H) : tX X Wx f σ H fun x H1 => gName i x σ H1 D.nx := by
  obtain ⟨ρ, W, env, A, S, h⟩ := h
  exact tS_then S h fun d W1 H1 env1 A1 v S1 F1 r1 h1 => h1 W1 H1 _ _ (S1.setFz i r1) (fr_nil i)
theorem own_read {i : Nat} {f : XF} {D : Ends} (h : tS X Wx (sOwn i f) D σ H) : tN X Wx f σ H fun x H1 => gName i x σ H1 D.nx := by
  obtain ⟨ρ, W, env, A, S, h⟩ := h
  refine ⟨ρ, W, env, A, S, ?_⟩
  unfold sOwn at h
  cases e : f env with
  | bad => rw [e] at h; exact h.elim
  | exc c d e' =>
    rw [e] at h
    exact fun C W' H' A' dx v g S' F' x r' => h C W' H' A' σ dx v g S' F' x r'
  | ok r =>
    rw [e] at h
    obtain ⟨c, env1⟩ := r
    intro W1 H1 A1 p S1 F1 n1 o1 n2 n3
    refine h W1 H1 (A1.set i [p]) _ (S1.put i ⟨p, rfl, rfl, n1, o1, fun _ z => nomatch z⟩ fun j l b hj hl hb => ?_) ⟨F1.ext, F1.keep, F1.new, fun b hb => ?_⟩
    · intro hm
      have e : b = p := by simpa using hm
      subst e
      exact n2 ⟨j, l, hl, hb⟩
    · rcases ownd_put hb with z | z
      · have e : b = p := by simpa using z
        subst e
        exact n3
      · exact F1.own b z
end
section
variable {X : Cx} {Wx : WX} {it it1 : IF} {g g1 : GF} {ts ts1 : TF} {el : XF} {us us1 vs1 : List Nat} {elt tg iter tg1 iter1 : Expr} {ifs ifs1 : List Expr} {scope : Scope} {own : List (Str × Nat)} {pos : Pos}
theorem en_comp (hc : X.calm = true) (hN : X.N.Nodup) (hi : EI X Wx tg iter it) (ok : BlkOk X.N X.env.scope scope own) (hus : us ⊆ own.map (·.2))
    (hg : ∀ (s : Shared) (H : Hp) (C : Addr) (cl : List (Str × Addr)) (fp : List Addr), EG (X.blk s H scope (compEnvC scope cl C X.env) fp) tg us g) (ht : ∀ (s : Shared) (H : Hp) (C : Addr) (cl : List (Str × Addr)) (fp : List Addr), EQ (X.blk s H scope (compEnvC scope cl C X.env) fp) Wx0 ifs ts)
    (he : ∀ (s : Shared) (H : Hp) (C : Addr) (cl : List (Str × Addr)) (fp : List Addr), EX (X.blk s H scope (compEnvC scope cl C X.env) fp) Wx0 elt el) (hs : ∀ x, foldedSetIterable iter X.env x = pure x := by intro _; rfl) :
    EN X Wx (.ListComp elt [⟨tg, iter, ifs, 0⟩] scope pos) (xComp it g ts el (own.map (·.2))) :=
  PE.wk (pe_lc hc hN hi ok hg ht he hs) fun σ H Q h => comp_read (fun j hj => hus hj) h
theorem es_setComp {i : Nat} {y : Str} {py spos : Pos} (hc : X.calm = true) (hN : X.N.Nodup) (hy : X.N[i]? = some y) (hyl : X.env.scope.names.lookup y = some .local)
    (hsw : swapsWith (.ListComp elt [⟨tg, iter, ifs, 0⟩] scope pos) (some (.Name y py)) spos.line X.env = pure true) (hi : EI X Wx tg iter it) (ok : BlkOk X.N X.env.scope scope own) (hus : us ⊆ own.map (·.2))
    (hg : ∀ (s : Shared) (H : Hp) (C : Addr) (cl : List (Str × Addr)) (fp : List Addr), EG (X.blk s H scope (compEnvC scope cl C X.env) fp) tg us g) (ht : ∀ (s : Shared) (H : Hp) (C : Addr) (cl : List (Str × Addr)) (fp : List Addr), EQ (X.blk s H scope (compEnvC scope cl C X.env) fp) Wx0 ifs ts)
    (he : ∀ (s : Shared) (H : Hp) (C : Addr) (cl : List (Str × Addr)) (fp : List Addr), EX (X.blk s H scope (compEnvC scope cl C X.env) fp) Wx0 elt el) (hs : ∀ x, foldedSetIterable iter X.env x = pure x := by intro _; rfl) :
    ES X Wx (.Assign [.Name y py] (.ListComp elt [⟨tg, iter, ifs, 0⟩] scope pos) spos) (sSet i (xComp it g ts el (own.map (·.2)))) :=
  PS.wk (ps_setLc hc hN hy hyl hsw hi ok hg ht he hs) fun D σ H h => comp_read (fun j hj => hus hj) (tX_tN (set_read h))
theorem es_ownComp {i : Nat} {y : Str} {py spos : Pos} (hc : X.calm = true) (hN : X.N.Nodup) (hy : X.N[i]? = some y) (hyl : X.env.scope.names.lookup y = some .local)
    (hsw : swapsWith (.ListComp elt [⟨tg, iter, ifs, 0⟩] scope pos) (some (.Name y py)) spos.line X.env = pure true) (hi : EI X Wx tg iter it) (ok : BlkOk X.N X.env.scope scope own) (hus : us ⊆ own.map (·.2))
    (hg : ∀ (s : Shared) (H : Hp) (C : Addr) (cl : List (Str × Addr)) (fp : List Addr), EG (X.blk s H scope (compEnvC scope cl C X.env) fp) tg us g) (ht : ∀ (s : Shared) (H : Hp) (C : Addr) (cl : List (Str × Addr)) (fp : List Addr), EQ (X.blk s H scope (compEnvC scope cl C X.env) fp) Wx0 ifs ts)
    (he : ∀ (s : Shared) (H : Hp) (C : Addr) (cl : List (Str × Addr)) (fp : List Addr), EX (X.blk s H scope (compEnvC scope cl C X.env) fp) Wx0 elt el) (hs : ∀ x, foldedSetIterable iter X.env x = pure x := by intro _; rfl) :
    ES X Wx (.Assign [.Name y py] (.ListComp elt [⟨tg, iter, ifs, 0⟩] scope pos) spos) (sOwn i (xComp it g ts el (own.map (·.2)))) :=
  PS.wk (ps_setLc hc hN hy hyl hsw hi ok hg ht he hs) fun D σ H h => comp_read (fun j hj => hus hj) (own_read h)

/-! ### two clauses -/
def cmp2L (g : GF) (ts : TF) (it1 : IF) (g1 : GF) (ts1 : TF) (el : XF) (vs vs1 : List Nat) : List D → Ev → Out (List D × Ev)
  | [], env => .ok ([], env)
  | x :: xs, env => match g x env with
    | none => .bad
    | some e1 => (ts e1).bind fun t => if t.1 = true then (it1 t.2).bind fun i => (cmpL g1 ts1 el vs1 i.1 (wipeE i.2 vs1)).bind fun q => (cmp2L g ts it1 g1 ts1 el vs vs1 xs (wipeE q.2 vs)).bind fun r => .ok (q.1 ++ r.1, r.2)
      else cmp2L g ts it1 g1 ts1 el vs vs1 xs (wipeE t.2 vs)
def lComp2 (it : IF) (g : GF) (ts : TF) (it1 : IF) (g1 : GF) (ts1 : TF) (el : XF) (vs vs1 : List Nat) : AF := fun env => (it env).bind fun r => match cmp2L g ts it1 g1 ts1 el vs vs1 r.1 (wipeE r.2 vs) with
  | .ok (ds, e) => if ds.length ≤ sizeLine then .ok (ds, backE r.2 e vs) else .bad
  | _ => .bad
def xComp2 (it : IF) (g : GF) (ts : TF) (it1 : IF) (g1 : GF) (ts1 : TF) (el : XF) (vs vs1 : List Nat) : XF := fun env => (lComp2 it g ts it1 g1 ts1 el vs vs1 env).bind fun r => .ok (.list r.1, r.2)
theorem comp2_read {vs : List Nat} {σ : L2.St} {H : Hp} {Q : VK} (hus : ∀ j ∈ us, j ∈ vs) (hus1 : ∀ j ∈ us1, j ∈ vs1) (hv : ∀ j ∈ vs1, j ∈ vs) (h : tN X Wx (xComp2 it g ts it1 g1 ts1 el vs vs1) σ H Q) :
    tLc2 (tI X Wx it) (tGt X us g) (tT X Wx0 ts) (tI X Wx0 it1) (tGt X us1 g1) (tT X Wx0 ts1) (tX X Wx0 el) vs vs1 σ H Q := by
  obtain ⟨ρ, W, env, A, S, h⟩ := h
  unfold xComp2 lComp2 at h
  have hb : ∀ {α β γ : Type} (o : Out α) (f : α → Out β) (k : β → Out γ), (o.bind f).bind k = o.bind fun a => (f a).bind k := by
    intro α β γ o f k; cases o <;> rfl
  rw [hb] at h
  refine tN_then S h fun xs W1 H1 env1 A1 J S1 F1 wk h1 => ?_
  intro L nL
  cases ec : cmp2L g ts it1 g1 ts1 el vs vs1 xs (wipeE env1 vs) with
  | bad => rw [ec] at h1; exact h1.elim
  | exc c d e => rw [ec] at h1; exact h1.elim
  | ok r =>
    obtain ⟨ds, envE⟩ := r
    simp only [ec] at h1
    by_cases hz : ds.length ≤ sizeLine
    · rw [if_pos hz] at h1
      have nW : W1 L = none := S1.sub.free nL
      have oL : ¬ ownd A1 L := fun z => by
        obtain ⟨_, u, hu⟩ := S1.own z
        rw [nL] at hu; cases hu
      have S2 : SR X.K X.w ρ W1 (upd H1 L (.lst [])) env1 σ A1 := S1.ex (Ex.junk S1.sub nL)
      -- the outer word
      let Wd : Nat → Hp → Prop := fun i H => i ≤ xs.length ∧ ∃ W2 env2 A2 done rest acc, SR X.K X.w ρ W2 H env2 (L2.wipe σ vs) A2 ∧ Fr W1 H1 (ownd A1) W2 H (ownd A2) ∧ W2 L = none ∧ ¬ ownd A2 L ∧ H L = some (.lst acc) ∧ RepL X.K X.w W2 done acc ∧
          done ++ rest = ds ∧ cmp2L g ts it1 g1 ts1 el vs vs1 (xs.drop i) env2 = .ok (rest, envE)
      refine ⟨fun i m H => m = xs.length - i ∧ Wd i H,
        ⟨xs.length, by simp, Nat.zero_le _, W1, _, _, [], ds, [], S2.wipe vs, ((Ex.junk S1.sub nL).fr _).trans (fr_sub fun p h => ownd_wipe h), nW, fun z => oL (ownd_wipe z), upd_same, RepL.nil, rfl, ec⟩, ?_⟩
      rintro i m H2 ⟨rfl, hi, W2, env2, A2, done, rest, acc, S3, F3, n3, o3, e3, r3, eq3, c3⟩
      by_cases hlt : i < xs.length
      · obtain ⟨x, hx⟩ : ∃ x, xs[i]? = some x := ⟨_, List.getElem?_eq_getElem hlt⟩
        have hd : xs.drop i = x :: xs.drop (i + 1) := by
          have e1 := List.drop_eq_getElem_cons hlt
          rw [List.getElem?_eq_getElem hlt] at hx
          cases hx
          exact e1
        rw [hd] at c3
        unfold cmp2L at c3
        refine .inr ⟨wk.go i H2 W2 F3.ext S3.sub hlt, Wd (i + 1), fun H' q => ⟨xs.length - (i + 1), by omega, rfl, q⟩, fun v H4 y => ?_⟩
        obtain ⟨W4, e4, r4⟩ := wk.yld i H2 W2 v H4 x F3.ext S3.sub hx y
        have S4 := S3.ex e4
        have L4 : H4 L = some (.lst acc) := e4.keep _ _ e3
        have n4 : W4 L = none := by
          cases z : W4 L with
          | none => rfl
          | some u =>
            have q := e4.new L (by rw [z]; exact fun z => nomatch z) n3
            rw [e3] at q; cases q
        cases eg : g x env2 with
        | none => rw [eg] at c3; cases c3
        | some env5 =>
          rw [eg] at c3
          simp only at c3
          refine ⟨ρ, W4, env2, A2, x, env5, S4, r4, eg, fun σ5 A5 S5 p5 a5 => ⟨?_, ?_⟩⟩
          · rw [wipe_agr a5 hus, wipe_wipe]
          · have ws : L2.wipe σ5 vs = L2.wipe σ vs := by rw [wipe_agr a5 hus, wipe_wipe]
            have F5 : Fr W1 H1 (ownd A1) W4 H4 (ownd A5) := F3.trans ((e4.fr _).trans (fr_sub p5))
            have l5 : ¬ ownd A5 L := fun z => o3 (p5 L z)
            have stay : ∀ {W0 H0 W' H' : Hp} {A0 A' : List (List Addr)} {ac : List V}, H0 L = some (.lst ac) → W0 L = none → ¬ ownd A0 L → Fr W0 H0 (ownd A0) W' H' (ownd A') → H' L = some (.lst ac) ∧ W' L = none ∧ ¬ ownd A' L := fun {W0 H0 W' H' A0 A' ac} hL hW ho F => by
              refine ⟨F.keep L _ hL ho, ?_, fun z => ?_⟩
              · cases z : W' L with
                | none => rfl
                | some u =>
                  rcases F.new L (by rw [z]; exact fun z => nomatch z) hW with q | q
                  · exact absurd q ho
                  · rw [hL] at q; cases q
              · rcases F.own L z with q | q
                · exact ho q
                · rw [hL] at q; cases q
            refine step0 S5 c3 fun b W6 H6 env6 A6 k S6 F6 r6 c6 => ?_
            subst r6
            cases k with
            | false =>
              simp only [Bool.false_eq_true, if_false] at c6
              obtain ⟨q1, q2, q3⟩ := stay L4 n4 l5 F6
              have S7 := S6.wipe vs
              rw [ws] at S7
              exact iteF ⟨hlt, W6, _, _, done, rest, acc, S7, F5.trans (F6.trans (fr_sub fun p h => ownd_wipe h)), q2, fun z => q3 (ownd_wipe z), q1, RepL.mono (e4.ext.trans F6.ext) _ _ r3, eq3, c6⟩
            | true =>
              simp only [if_true] at c6
              refine iteT (step0 S6 c6 fun ys W7 H7 env7 A7 J1 S7 F7 wk7 c7 => ?_)
              have F67 := F6.trans F7
              obtain ⟨q1, q2, q3⟩ := stay L4 n4 l5 F67
              cases ei : cmpL g1 ts1 el vs1 ys (wipeE env7 vs1) with
              | bad => rw [ei] at c7; cases c7
              | exc c d' e => rw [ei] at c7; cases c7
              | ok rr =>
                obtain ⟨dsI, envI⟩ := rr
                rw [ei, Out.bind_ok] at c7
                cases ed : cmp2L g ts it1 g1 ts1 el vs vs1 (xs.drop (i + 1)) (wipeE envI vs) with
                | bad => rw [ed] at c7; cases c7
                | exc c d' e => rw [ed] at c7; cases c7
                | ok rr =>
                  obtain ⟨rest', envE'⟩ := rr
                  rw [ed, Out.bind_ok] at c7
                  have c8 : dsI ++ rest' = rest ∧ envE' = envE := by
                    injection c7 with c7
                    injection c7 with c7 c9
                    exact ⟨c7, c9⟩
                  obtain ⟨c8, c9⟩ := c8
                  subst c9
                  have r7 : RepL X.K X.w W7 done acc := RepL.mono (e4.ext.trans F67.ext) _ _ r3
                  have F57 := F5.trans F67
                  refine ⟨fun j k H => k = ys.length - j ∧ j ≤ ys.length ∧ ∃ W8 env8 A8 dn rs ac, SR X.K X.w ρ W8 H env8 (L2.wipe σ5 vs1) A8 ∧ Fr W1 H1 (ownd A1) W8 H (ownd A8) ∧ Same W7 W8 ∧ W8 L = none ∧ ¬ ownd A8 L ∧ H L = some (.lst (acc ++ ac)) ∧ RepL X.K X.w W8 (done ++ dn) (acc ++ ac) ∧
                      dn ++ rs = dsI ∧ cmpL g1 ts1 el vs1 (ys.drop j) env8 = .ok (rs, envI),
                    ⟨ys.length, by simp, Nat.zero_le _, W7, _, _, [], dsI, [], S7.wipe vs1, F57.trans (fr_sub fun p h => ownd_wipe h), Same.refl _, q2, fun z => q3 (ownd_wipe z), by rw [List.append_nil]; exact q1, by rw [List.append_nil, List.append_nil]; exact r7, rfl, ei⟩, ?_⟩
                  rintro j k H8 ⟨rfl, hj, W8, env8, A8, dn, rs, ac, S8, F8, s8, n8, o8, e8, r8, eq8, c8'⟩
                  by_cases hlt1 : j < ys.length
                  · obtain ⟨x1, hx1⟩ : ∃ x, ys[j]? = some x := ⟨_, List.getElem?_eq_getElem hlt1⟩
                    have hd1 : ys.drop j = x1 :: ys.drop (j + 1) := by
                      have e1 := List.drop_eq_getElem_cons hlt1
                      rw [List.getElem?_eq_getElem hlt1] at hx1
                      cases hx1
                      exact e1
                    rw [hd1] at c8'
                    unfold cmpL at c8'
                    refine .inr ⟨wk7.go j H8 W8 s8 S8.sub hlt1, fun H => j + 1 ≤ ys.length ∧ ∃ W8 env8 A8 dn rs ac, SR X.K X.w ρ W8 H env8 (L2.wipe σ5 vs1) A8 ∧ Fr W1 H1 (ownd A1) W8 H (ownd A8) ∧ Same W7 W8 ∧ W8 L = none ∧ ¬ ownd A8 L ∧ H L = some (.lst (acc ++ ac)) ∧ RepL X.K X.w W8 (done ++ dn) (acc ++ ac) ∧
                        dn ++ rs = dsI ∧ cmpL g1 ts1 el vs1 (ys.drop (j + 1)) env8 = .ok (rs, envI), fun H' ⟨u1, u2⟩ => ⟨ys.length - (j + 1), by omega, rfl, u1, u2⟩, fun v1 H9 y1 => ?_⟩
                    obtain ⟨W9, e9, r9⟩ := wk7.yld j H8 W8 v1 H9 x1 s8 S8.sub hx1 y1
                    have S9 := S8.ex e9
                    have L9 : H9 L = some (.lst (acc ++ ac)) := e9.keep _ _ e8
                    have n9 : W9 L = none := by
                      cases z : W9 L with
                      | none => rfl
                      | some u =>
                        have q := e9.new L (by rw [z]; exact fun z => nomatch z) n8
                        rw [e8] at q; cases q
                    cases eg1 : g1 x1 env8 with
                    | none => rw [eg1] at c8'; cases c8'
                    | some env10 =>
                      rw [eg1] at c8'
                      simp only at c8'
                      refine ⟨ρ, W9, env8, A8, x1, env10, S9, r9, eg1, fun σ10 A10 S10 p10 a10 => ⟨?_, ?_⟩⟩
                      · rw [wipe_agr a10 hus1, wipe_wipe]
                      · have ws1 : L2.wipe σ10 vs1 = L2.wipe σ5 vs1 := by rw [wipe_agr a10 hus1, wipe_wipe]
                        have F10 : Fr W1 H1 (ownd A1) W9 H9 (ownd A10) := F8.trans ((e9.fr _).trans (fr_sub p10))
                        have l10 : ¬ ownd A10 L := fun z => o8 (p10 L z)
                        refine step0 S10 c8' fun b W11 H11 env11 A11 k S11 F11 r11 c11 => ?_
                        subst r11
                        cases k with
                        | false =>
                          simp only [Bool.false_eq_true, if_false] at c11
                          obtain ⟨z1, z2, z3⟩ := stay L9 n9 l10 F11
                          have S12 := S11.wipe vs1
                          rw [ws1] at S12
                          exact iteF ⟨hlt1, W11, _, _, dn, rs, ac, S12, F10.trans (F11.trans (fr_sub fun p h => ownd_wipe h)), s8.trans (e9.ext.trans F11.ext), z2, fun z => z3 (ownd_wipe z), z1, RepL.mono (e9.ext.trans F11.ext) _ _ r8, eq8, c11⟩
                        | true =>
                          simp only [if_true] at c11
                          refine iteT (step0 S11 c11 fun d W12 H12 env12 A12 v12 S12 F12 r12 c12 => ?_)
                          have F112 := F11.trans F12
                          obtain ⟨z1, z2, z3⟩ := stay L9 n9 l10 F112
                          cases ed1 : cmpL g1 ts1 el vs1 (ys.drop (j + 1)) (wipeE env12 vs1) with
                          | bad => rw [ed1] at c12; cases c12
                          | exc c d' e => rw [ed1] at c12; cases c12
                          | ok rr =>
                            obtain ⟨rs', envI'⟩ := rr
                            rw [ed1, Out.bind_ok] at c12
                            have c13 : d :: rs' = rs ∧ envI' = envI := by
                              injection c12 with c12
                              injection c12 with c12 c14
                              exact ⟨c12, c14⟩
                            obtain ⟨c13, c14⟩ := c13
                            subst c14
                            have r13 : RepL X.K X.w W12 (done ++ dn) (acc ++ ac) := RepL.mono (e9.ext.trans F112.ext) _ _ r8
                            have hlen : (acc ++ ac).length < sizeLine := by
                              rw [r13.len]
                              have e1 := congrArg List.length eq3
                              rw [List.length_append, ← c8, List.length_append, ← eq8, List.length_append, ← c13, List.length_cons] at e1
                              rw [List.length_append]
                              omega
                            have S13 : SR X.K X.w ρ W12 (upd H12 L (.lst (acc ++ ac ++ [v12]))) env12 σ10 A12 := by
                              refine S12.keep (Same.refl _) (fun b u q => ?_) fun b hb => ⟨upd_ne fun e => z3 (e ▸ hb), (S12.own hb).1⟩
                              rw [upd_ne (fun e => by rw [e, z2] at q; cases q)]
                              exact S12.sub b u q
                            have S14 := S13.wipe vs1
                            rw [ws1] at S14
                            refine ⟨acc ++ ac, z1, hlen, hlt1, W12, _, _, dn ++ [d], rs', ac ++ [v12], S14, ?_, s8.trans (e9.ext.trans F112.ext), z2, fun z => z3 (ownd_wipe z), by rw [← List.append_assoc]; exact upd_same, by rw [← List.append_assoc, ← List.append_assoc]; exact RepL.snoc r13 r12, by rw [List.append_assoc]; exact (by rw [← eq8, ← c13]; rfl), ed1⟩
                            have F13 := F10.trans F112
                            refine ⟨F13.ext, fun b u hb hp => ?_, F13.new, fun b hb => F13.own b (ownd_wipe hb)⟩
                            have e : b ≠ L := fun e => by rw [e, nL] at hb; cases hb
                            rw [upd_ne e]
                            exact F13.keep b u hb hp
                  · have ej : j = ys.length := by omega
                    subst ej
                    refine .inl ⟨wk7.stop _ H8 W8 s8 S8.sub (Nat.le_refl _), ?_⟩
                    rw [List.drop_length] at c8'
                    unfold cmpL at c8'
                    have c9 : rs = [] ∧ env8 = envI := by
                      injection c8' with c3
                      injection c3 with c3 c5
                      exact ⟨c3.symm, c5⟩
                    obtain ⟨rfl, rfl⟩ := c9
                    rw [List.append_nil] at eq8
                    subst eq8
                    have S9 := S8.wipe vs
                    have ww : L2.wipe (L2.wipe σ5 vs1) vs = L2.wipe σ vs := by
                      rw [wipe_agr (us := vs1) (σ := σ5) ⟨wipe_length _ _, fun j hj => wipe_out vs1 hj⟩ hv, ws]
                    rw [ww] at S9
                    exact ⟨hlt, W8, _, _, done ++ dn, rest', acc ++ ac, S9, F8.trans (fr_sub fun p h => ownd_wipe h), n8, fun z => o8 (ownd_wipe z), e8, r8, by rw [List.append_assoc, c8]; exact eq3, ed⟩
      · have ei : i = xs.length := by omega
        subst ei
        refine .inl ⟨wk.stop _ H2 W2 F3.ext S3.sub (Nat.le_refl _), ?_⟩
        rw [List.drop_length] at c3
        unfold cmp2L at c3
        have c4 : rest = [] ∧ env2 = envE := by
          injection c3 with c3
          injection c3 with c3 c5
          exact ⟨c3.symm, c5⟩
        obtain ⟨rfl, rfl⟩ := c4
        rw [List.append_nil] at eq3
        subst eq3
        exact h1 W2 H2 _ L (SR.back S3 S1 F3.ext) (F3.trans (fr_sub fun p h => ownd_wipe h)) n3 ⟨acc, e3, r3⟩ (fun z => o3 (ownd_wipe z)) (.inr nL)
    · rw [if_neg hz] at h1
      exact h1.elim
theorem en_comp2 (hc : X.calm = true) (hN : X.N.Nodup) (hi : EI X Wx tg iter it) (ok : BlkOk X.N X.env.scope scope own) (hv : ∀ j ∈ vs1, j ∈ own.map (·.2)) (hus : us ⊆ own.map (·.2)) (hus1 : us1 ⊆ vs1)
    (hg : ∀ (s : Shared) (H : Hp) (C : Addr) (cl : List (Str × Addr)) (fp : List Addr), EG (X.blk s H scope (compEnvC scope cl C X.env) fp) tg us g) (ht : ∀ (s : Shared) (H : Hp) (C : Addr) (cl : List (Str × Addr)) (fp : List Addr), EQ (X.blk s H scope (compEnvC scope cl C X.env) fp) Wx0 ifs ts)
    (hi1 : ∀ (s : Shared) (H : Hp) (C : Addr) (cl : List (Str × Addr)) (fp : List Addr), EI (X.blk s H scope (compEnvC scope cl C X.env) fp) Wx0 tg1 iter1 it1)
    (hg1 : ∀ (s : Shared) (H : Hp) (C : Addr) (cl : List (Str × Addr)) (fp : List Addr), EG (X.blk s H scope (compEnvC scope cl C X.env) fp) tg1 us1 g1) (ht1 : ∀ (s : Shared) (H : Hp) (C : Addr) (cl : List (Str × Addr)) (fp : List Addr), EQ (X.blk s H scope (compEnvC scope cl C X.env) fp) Wx0 ifs1 ts1)
    (he : ∀ (s : Shared) (H : Hp) (C : Addr) (cl : List (Str × Addr)) (fp : List Addr), EX (X.blk s H scope (compEnvC scope cl C X.env) fp) Wx0 elt el) (hs : ∀ x, foldedSetIterable iter X.env x = pure x := by intro _; rfl) (hs1 : ∀ env x, foldedSetIterable iter1 env x = pure x := by intro _ _; rfl) :
    EN X Wx (.ListComp elt [⟨tg, iter, ifs, 0⟩, ⟨tg1, iter1, ifs1, 0⟩] scope pos) (xComp2 it g ts it1 g1 ts1 el (own.map (·.2)) vs1) :=
  PE.wk (pe_lc2 hc hN hi ok hv hg ht hi1 hg1 ht1 he hs hs1) fun σ H Q h => comp2_read (fun j hj => hus hj) (fun j hj => hus1 hj) hv h
theorem es_setComp2 {i : Nat} {y : Str} {py spos : Pos} (hc : X.calm = true) (hN : X.N.Nodup) (hy : X.N[i]? = some y) (hyl : X.env.scope.names.lookup y = some .local)
    (hsw : swapsWith (.ListComp elt [⟨tg, iter, ifs, 0⟩, ⟨tg1, iter1, ifs1, 0⟩] scope pos) (some (.Name y py)) spos.line X.env = pure true) (hi : EI X Wx tg iter it) (ok : BlkOk X.N X.env.scope scope own) (hv : ∀ j ∈ vs1, j ∈ own.map (·.2)) (hus : us ⊆ own.map (·.2)) (hus1 : us1 ⊆ vs1)
    (hg : ∀ (s : Shared) (H : Hp) (C : Addr) (cl : List (Str × Addr)) (fp : List Addr), EG (X.blk s H scope (compEnvC scope cl C X.env) fp) tg us g) (ht : ∀ (s : Shared) (H : Hp) (C : Addr) (cl : List (Str × Addr)) (fp : List Addr), EQ (X.blk s H scope (compEnvC scope cl C X.env) fp) Wx0 ifs ts)
    (hi1 : ∀ (s : Shared) (H : Hp) (C : Addr) (cl : List (Str × Addr)) (fp : List Addr), EI (X.blk s H scope (compEnvC scope cl C X.env) fp) Wx0 tg1 iter1 it1)
    (hg1 : ∀ (s : Shared) (H : Hp) (C : Addr) (cl : List (Str × Addr)) (fp : List Addr), EG (X.blk s H scope (compEnvC scope cl C X.env) fp) tg1 us1 g1) (ht1 : ∀ (s : Shared) (H : Hp) (C : Addr) (cl : List (Str × Addr)) (fp : List Addr), EQ (X.blk s H scope (compEnvC scope cl C X.env) fp) Wx0 ifs1 ts1)
    (he : ∀ (s : Shared) (H : Hp) (C : Addr) (cl : List (Str × Addr)) (fp : List Addr), EX (X.blk s H scope (compEnvC scope cl C X.env) fp) Wx0 elt el) (hs : ∀ x, foldedSetIterable iter X.env x = pure x := by intro _; rfl) (hs1 : ∀ env x, foldedSetIterable iter1 env x = pure x := by intro _ _; rfl) :
    ES X Wx (.Assign [.Name y py] (.ListComp elt [⟨tg, iter, ifs, 0⟩, ⟨tg1, iter1, ifs1, 0⟩] scope pos) spos) (sSet i (xComp2 it g ts it1 g1 ts1 el (own.map (·.2)) vs1)) :=
  PS.wk (ps_setLc2 hc hN hy hyl hsw hi ok hv hg ht hi1 hg1 ht1 he hs hs1) fun D σ H h => comp2_read (fun j hj => hus hj) (fun j hj => hus1 hj) hv (tX_tN (set_read h))
end
end DP
set_option Elab.async false
set_option linter.all false
set_option maxRecDepth 100000
/-! DP, part 8: defs and their calls. -/
namespace DP
open PySem PySem.Spec PyProof.Rows L2

abbrev FD := List D → Out D
/-- what a caller wants of a def that changes nothing -/
def onF (K : PySem.W.Frag) (w : World) (mg : Str → Option Value) (W H : Hp) (o : Out D) (Q : VK) (E : XK) : Prop := match o with
  | .ok d => ∀ W' H' v, Ex W H W' H' → Rep K w W' d v → Q v H'
  | .exc c d _ => ∀ C W' H' dx v, mg c = some (.ref C) → Ex W H W' H' → H' dx = some (.xd [("at", v)]) → Rep K w W' d v → E (.ref C) (some dx) H'
  | .bad => False
/-- the promise of a def that reckons F, of n parameters -/
def spF (K : PySem.W.Frag) (w : World) (mg : Str → Option Value) (n : Nat) (F : FD) : Sp := fun vs H Q E => ∃ W ds, Same W H ∧ RepL K w W ds vs ∧ ds.length = n ∧ onF K w mg W H (F ds) Q E
/-- a body of n slots run at the parameters -/
def runB (n : Nat) (B : SF) (ds : List D) : Out D := match B (ds.map .fz ++ List.replicate (n - ds.length) .no) with
  | .ok (.rt d, _) => .ok d
  | .ok (.nx, _) => .ok .none
  | .ok _ => .bad
  | .exc c d e => .exc c d e
  | .bad => .bad
def xCall (n : Nat) (F : FD) (g : AF) : XF := fun env => (g env).bind fun r => if r.1.length = n then (match F r.1 with
  | .ok d => .ok (d, r.2)
  | .exc c d _ => .exc c d r.2
  | .bad => .bad) else .bad

theorem Fr.ex {W H W' H' : Hp} {P P' : Addr → Prop} (F : Fr W H P W' H' P') (hP : ∀ p, ¬ P p) (s : Same W' H') : Ex W H W' H' :=
  ⟨F.ext, fun p o h => F.keep p o h (hP p), s, fun p h1 h2 => (F.new p h1 h2).resolve_left (hP p)⟩
theorem own_none {n : Nat} (p : Addr) : ¬ ownd (List.replicate n []) p := fun ⟨i, l, h, hp⟩ => by
  rw [List.getElem?_replicate] at h
  split at h
  · cases h; cases hp
  · cases h
/-- the parameters' picture -/
theorem SR.start {K : PySem.W.Frag} {w : World} {ρ : Nat → Addr} {W H : Hp} {ds : List D} {vs : List V} {N : List Str} (s : Same W H) (r : RepL K w W ds vs) :
    SR K w ρ W H (ds.map .fz ++ List.replicate (N.length - ds.length) .no) (L2.start N vs) (List.replicate (L2.start N vs).length []) := by
  have hl := r.len
  refine ⟨s, ?_, by simp, fun i sl v l h1 h2 h3 => ?_, fun i j l m p h1 h2 h3 _ => ?_⟩
  · unfold L2.start
    simp only [List.length_append, List.length_map, List.length_replicate]
    omega
  · rw [List.getElem?_replicate] at h3
    split at h3
    · cases h3
      unfold L2.start at h2
      by_cases hi : i < ds.length
      · rw [List.getElem?_append_left (by simpa using hi), List.getElem?_map, List.getElem?_eq_getElem hi] at h1
        cases h1
        rw [List.getElem?_append_left (by simp; omega), List.getElem?_map] at h2
        obtain ⟨x, hx, rx⟩ := r.at (List.getElem?_eq_getElem hi)
        rw [hx] at h2
        cases h2
        exact ⟨rfl, x, rfl, rx⟩
      · rw [List.getElem?_append_right (by simp; omega), List.getElem?_replicate] at h1
        split at h1 <;> cases h1
        exact rfl
    · cases h3
  · exact absurd ⟨i, l, h1, h3⟩ (own_none p)
section
variable {P : Program} {w : World} {K : PySem.W.Frag} {mg : Str → Option Value} {base : Heap}
/-- A DEF: its body's rules, and what they reckon -/
theorem fn_pure {x qual : Str} {st : Stmt} {f : Addr} {fd : FuncData} {N ps : List Str} {k : Nat} {F : FD} {B : SF} (Fn : Fun K x qual st f fd) (S : FnScope N ps (defScope st)) (hF : ∀ ds, ds.length = ps.length → F ds = runB N.length B ds)
    (body : ∀ (cdv : Value) (A : Around) (outer : List Env) (s : Shared) (H : Hp) (E : XK), Room k (A.deeper (envOfC qual (defScope st) s.heap.objs.size f cdv)) →
      EB (cxOf (L2.CX P w) P w K mg base N qual (defScope st) f cdv A outer s H E) (fun cls d _ H => E cls d H) (defBody st) B) :
    FnOk P w K mg base (L2.CX P w) (k + 1) f fd ps (spF K w mg ps.length F) := by
  refine Fn.okX S (fun vs H Q E h => ?_) fun cdv A outer s H vs Q E hr h => ⟨_, body cdv A outer s H E hr, ?_⟩
  · obtain ⟨W, ds, _, r, hl, _⟩ := h
    exact r.len.trans hl
  · obtain ⟨W, ds, sm, r, hl, h⟩ := h
    refine ⟨fun _ => 0, W, _, _, SR.start sm r, ?_⟩
    rw [hF ds hl] at h
    unfold runB at h
    have ex : ∀ {W' H' : Hp} {A' : List (List Addr)}, Same W' H' → Fr W H (ownd (List.replicate (L2.start N vs).length [])) W' H' (ownd A') → Ex W H W' H' := fun s F => F.ex own_none s
    cases eb : B (ds.map .fz ++ List.replicate (N.length - ds.length) .no) with
    | bad => rw [eb] at h; exact h.elim
    | exc c d e =>
      rw [eb] at h
      exact fun C W' H' A' σ' dx v g S' F' x r' => h C W' H' dx v g (ex S'.sub F') x r'
    | ok q =>
      obtain ⟨fl, env'⟩ := q
      rw [eb] at h
      cases fl with
      | nx => exact fun W' H' A' σ' S' F' => h W' H' _ (ex S'.sub F') rfl
      | rt d => exact fun W' H' A' σ' S' F' v rv => h W' H' v (ex S'.sub F') rv
      | bk => exact h.elim
      | ct => exact h.elim
end
section
variable {X : Cx} {Wx : WX} {k n : Nat} {f : Addr} {fd : FuncData} {ps : List Str} {F : FD} {x : Str} {p pos : Pos} {e : Expr} {es : List Expr} {g : AF}
theorem ex_call (G : FnOk X.prog X.w X.K X.mg X.base (L2.CX X.prog X.w) k f fd ps (spF X.K X.w X.mg n F)) (hr : Room k X.A) (hg : Gl X x) (hm : X.mg x = some (.ref f)) (hk : PySem.W.keepIn X.K (.ref f) = true) (hb : Binds X.K fd ps [])
    (tk : Takes X Wx) (ha : EA X Wx (e :: es) g) (hdb : (x == ("__debug__" : Str)) = false := by decide) (he : starEach (e :: es) X.env = (false, eval e X.env) :: starEach es X.env := by rfl) (hpl : (backTo pos (starEach es X.env)).any (·.1) = false := by rfl) :
    EX X Wx (.Call (.Name x p) (e :: es) [] pos) (xCall n F g) := by
  refine PE.wk (pe_callSD (E := fun σ cls d H => Wx cls d σ H) G hr hg hm hk hb .nil (fun σ => passAt tk σ) ha hdb he hpl) ?_
  rintro σ H Q ⟨ρ, W, env, A, S, h⟩
  refine tG_then S h fun ds W1 H1 env1 A1 vs S1 F1 r1 h1 => ?_
  by_cases hn : ds.length = n
  · simp only [if_pos hn] at h1
    rw [List.append_nil]
    refine ⟨W1, ds, S1.sub, r1, hn, ?_⟩
    cases eF : F ds with
    | bad => rw [eF] at h1; exact h1.elim
    | ok d =>
      rw [eF] at h1
      exact fun W' H' v ex r => h1 W' H' A1 v (S1.ex ex) (ex.fr _) r
    | exc c d e' =>
      rw [eF] at h1
      exact fun C W' H' dx v g ex hx r => h1 C W' H' A1 dx v g (S1.ex ex) (ex.fr _) hx r
  · simp only [if_neg hn] at h1
    exact h1.elim
end
/-! ### built-ins -/
section
variable {X : Cx} {Wx : WX} {x : Str} {id T : String} {p pos : Pos} {e : Expr} {es : List Expr} {g : AF} {op : List D → Option D}
theorem ex_blt (hc : CallR X (.builtin id) (tVn X.K X.w op)) (hg : Gl X x) (hm : X.mg x = none) (hv : bootBuiltins x = some (.builtin id)) (ha : EA X Wx (e :: es) g) (hn : x ≠ "__name__" := by decide) (hdb : (x == ("__debug__" : Str)) = false := by decide)
    (he : starEach (e :: es) X.env = (false, eval e X.env) :: starEach es X.env := by rfl) (hpl : (backTo pos (starEach es X.env)).any (·.1) = false := by rfl) : EX X Wx (.Call (.Name x p) (e :: es) [] pos) (xn op g) := by
  refine PE.wk (pe_callB hc hg hm hv ha hn hdb he hpl) ?_
  rintro σ H Q ⟨ρ, W, env, A, S, h⟩
  exact tG_then S h fun ds W1 H1 env1 A1 vs S1 F1 r1 h1 => ⟨W1, ds, S1.sub, r1, onV_of S1 h1⟩
theorem en_blt (hc : CallR X (.builtin id) (tWn X.K X.w op)) (hg : Gl X x) (hm : X.mg x = none) (hv : bootBuiltins x = some (.builtin id)) (ha : EA X Wx (e :: es) g) (hn : x ≠ "__name__" := by decide) (hdb : (x == ("__debug__" : Str)) = false := by decide)
    (he : starEach (e :: es) X.env = (false, eval e X.env) :: starEach es X.env := by rfl) (hpl : (backTo pos (starEach es X.env)).any (·.1) = false := by rfl) : EN X Wx (.Call (.Name x p) (e :: es) [] pos) (xn op g) := by
  refine PE.wk (pe_callB hc hg hm hv ha hn hdb he hpl) ?_
  rintro σ H Q ⟨ρ, W, env, A, S, h⟩
  exact tN_then S h fun ds W1 H1 env1 A1 vs S1 F1 r1 h1 => ⟨W1, ds, S1.sub, r1, onW_of S1 h1⟩
theorem ex_bty (hc : CallR X (.type T) (tVn X.K X.w op)) (hg : Gl X x) (hm : X.mg x = none) (hv : bootBuiltins x = some (.type T)) (ha : EA X Wx (e :: es) g) (hn : x ≠ "__name__" := by decide) (hdb : (x == ("__debug__" : Str)) = false := by decide)
    (he : starEach (e :: es) X.env = (false, eval e X.env) :: starEach es X.env := by rfl) (hpl : (backTo pos (starEach es X.env)).any (·.1) = false := by rfl) : EX X Wx (.Call (.Name x p) (e :: es) [] pos) (xn op g) := by
  refine PE.wk (pe_callTy hc hg hm hv ha hn hdb he hpl) ?_
  rintro σ H Q ⟨ρ, W, env, A, S, h⟩
  exact tG_then S h fun ds W1 H1 env1 A1 vs S1 F1 r1 h1 => ⟨W1, ds, S1.sub, r1, onV_of S1 h1⟩
theorem en_bty (hc : CallR X (.type T) (tWn X.K X.w op)) (hg : Gl X x) (hm : X.mg x = none) (hv : bootBuiltins x = some (.type T)) (ha : EA X Wx (e :: es) g) (hn : x ≠ "__name__" := by decide) (hdb : (x == ("__debug__" : Str)) = false := by decide)
    (he : starEach (e :: es) X.env = (false, eval e X.env) :: starEach es X.env := by rfl) (hpl : (backTo pos (starEach es X.env)).any (·.1) = false := by rfl) : EN X Wx (.Call (.Name x p) (e :: es) [] pos) (xn op g) := by
  refine PE.wk (pe_callTy hc hg hm hv ha hn hdb he hpl) ?_
  rintro σ H Q ⟨ρ, W, env, A, S, h⟩
  exact tN_then S h fun ds W1 H1 env1 A1 vs S1 F1 r1 h1 => ⟨W1, ds, S1.sub, r1, onW_of S1 h1⟩
end
end DP
set_option Elab.async false
set_option linter.all false
set_option maxRecDepth 100000
/-! DP, part 9: what is walked; built-ins. -/
namespace DP
open PySem PySem.Spec PyProof.Rows L2

/-! ### walks -/
section
variable {K : PySem.W.Frag} {w : World} {W : Hp}
theorem wk_list {ds : List D} {a : Addr} {vs : List V} (h : W a = some (.lst vs)) (r : RepL K w W ds vs) : Wk K w W ds (Itl K a) where
  go i H W2 s1 s2 hi := by
    obtain ⟨x, hx, _⟩ := r.at (List.getElem?_eq_getElem hi)
    exact ⟨vs, x, .of (s2 _ _ (s1 _ _ h)), hx⟩
  stop i H W2 s1 s2 hi := ⟨vs, .of (s2 _ _ (s1 _ _ h)), by rw [r.len]; exact hi⟩
  yld i H W2 v H' x s1 s2 hx y := by
    obtain ⟨rfl, y⟩ := y
    obtain ⟨u, hu, ru⟩ := r.at hx
    have e := y vs (.of (s2 _ _ (s1 _ _ h)))
    rw [hu] at e
    cases e
    exact ⟨W2, Ex.refl s2, Rep.mono s1 _ _ ru⟩
theorem wk_tup {ds : List D} {a : Addr} {vs : List V} (h : SqT K W a vs) (r : RepL K w W ds vs) : Wk K w W ds (Itt K a) where
  go i H W2 s1 s2 hi := by
    obtain ⟨x, hx, _⟩ := r.at (List.getElem?_eq_getElem hi)
    exact ⟨vs, x, Same.sqt s2 (Same.sqt s1 h), hx⟩
  stop i H W2 s1 s2 hi := ⟨vs, Same.sqt s2 (Same.sqt s1 h), by rw [r.len]; exact hi⟩
  yld i H W2 v H' x s1 s2 hx y := by
    obtain ⟨rfl, y⟩ := y
    obtain ⟨u, hu, ru⟩ := r.at hx
    have e := y vs (Same.sqt s2 (Same.sqt s1 h))
    rw [hu] at e
    cases e
    exact ⟨W2, Ex.refl s2, Rep.mono s1 _ _ ru⟩
/-- lo, lo + c, .. (n of them) -/
def rngD (lo c : Int) (n : Nat) : List D := (List.range n).map fun (i : Nat) => .int (lo + (i : Int) * c)
theorem rngD_at {lo c : Int} {n i : Nat} {x : D} (h : (rngD lo c n)[i]? = some x) : i < n ∧ x = .int (lo + (i : Int) * c) := by
  unfold rngD at h
  rw [List.getElem?_map] at h
  cases e : (List.range n)[i]? with
  | none => rw [e] at h; cases h
  | some j =>
    rw [e] at h
    have hl := (List.getElem?_eq_some_iff.mp e).1
    rw [List.length_range] at hl
    rw [List.getElem?_range hl] at e
    cases e
    cases h
    exact ⟨hl, rfl⟩
theorem rngD_len (lo c : Int) (n : Nat) : (rngD lo c n).length = n := by simp [rngD]
theorem wk_rng {lo : Int} {n : Nat} : Wk K w W (rngD lo 1 n) (Itr lo n) where
  go i H W2 s1 s2 hi := by rw [rngD_len] at hi; exact hi
  stop i H W2 s1 s2 hi := by rw [rngD_len] at hi; exact hi
  yld i H W2 v H' x s1 s2 hx y := by
    obtain ⟨rfl, rfl⟩ := y
    obtain ⟨hi, rfl⟩ := rngD_at hx
    exact ⟨W2, Ex.refl s2, by simp only [Rep, Int.mul_one]⟩
theorem wk_rngC {lo c : Int} {n : Nat} : Wk K w W (rngD lo c n) (Itc lo c n) where
  go i H W2 s1 s2 hi := by rw [rngD_len] at hi; exact hi
  stop i H W2 s1 s2 hi := by rw [rngD_len] at hi; exact hi
  yld i H W2 v H' x s1 s2 hx y := by
    obtain ⟨rfl, rfl⟩ := y
    obtain ⟨hi, rfl⟩ := rngD_at hx
    exact ⟨W2, Ex.refl s2, rfl⟩
end
/-- the items of a list, a tuple -/
def seqD : D → Option (List D)
  | .list ds => some ds
  | .tuple ds => some ds
  | _ => none
def iSeq (f : XF) : IF := fun env => (f env).bind fun r => liftO (seqD r.1) r.2
def s62 (i : Int) : Bool := decide (-(2 ^ 62) ≤ i) && decide (i < 2 ^ 62)
theorem s62_iff {i : Int} : s62 i = true ↔ -(2 ^ 62) ≤ i ∧ i < 2 ^ 62 := by simp [s62]
def rng1 : List D → Option (List D)
  | [.int j] => if s62 j then some (rngD 0 1 j.toNat) else none
  | _ => none
def rng2 : List D → Option (List D)
  | [.int i, .int j] => if s62 i && s62 j then some (rngD i 1 (j - i).toNat) else none
  | _ => none
/-- how many turns range(i, j, c) takes -/
def rngN (i j c : Int) : Nat := (Builtin.Range.rangeSize i j c).toNat
def rng3 : List D → Option (List D)
  | [.int i, .int j, .int c] => if c ≠ 0 ∧ c.natAbs < 1073741824 ∧ Builtin.Range.small i j c = true then some (rngD i c (rngN i j c)) else none
  | _ => none
def iArgs (op : List D → Option (List D)) (f : AF) : IF := fun env => (f env).bind fun r => liftO (op r.1) r.2
section
variable {X : Cx} {Wx : WX} {tg a b c e : Expr} {es : List Expr} {f : XF} {g : AF} {p pos : Pos}
/-- a list or a tuple, as it comes -/
theorem pi_seq {tl : TE} (hl : PE X e tl) : PI X tg e (fun σ H R => tl σ H fun x H1 => (∃ a, x = .ref a ∧ (∃ xs, SqL X.K H1 a xs) ∧ R (Itl X.K a) H1) ∨ (∃ a, x = .ref a ∧ (∃ xs, SqT X.K H1 a xs) ∧ R (Itt X.K a) H1)) := by
  refine ⟨fun pins s σ H R I h => ?_⟩
  refine thn (hl.run pins s σ H _ I h) fun u s1 ⟨x, H1, I1, r1, q1⟩ => ?_
  rcases q1 with ⟨a, ex, ⟨xs, hq⟩, q⟩ | ⟨a, ex, ⟨xs, hq⟩, q⟩
  · subst ex
    cases r1
    obtain ⟨us, _, pl, _⟩ := I1.list hq
    exact wpAny_pyIter_list pl.isList (pi_one (tk := s1.toks) I1 _ (turn_list a _) ⟨_, Heap.get?_push_size _ rfl, rfl, rfl⟩ q)
  · subst ex
    cases r1
    obtain ⟨us, _, pl, _⟩ := I1.tuple hq
    exact wpAny_pyIter_tuple (show s1.heap.IsTuple a us.toArray from pl) (pi_one (tk := s1.toks) I1 _ (turn_tuple a _) ⟨_, Heap.get?_push_size _ rfl, rfl, rfl⟩ q)
theorem wk_of {o : Option (List D)} {ρ : Nat → Addr} {σ : L2.St} {W H : Hp} {A : List (List Addr)} {env : Ev} {R : It → Hp → Prop} {J : It} {xs : List D}
    (S : SR X.K X.w ρ W H env σ A) (h : onG X.K X.w X.mg Wx (fun W xs J => Wk X.K X.w W xs J) ρ σ W H A (liftO o env) R) (ho : o = some xs) (wk : Wk X.K X.w W xs J) : R J H := by
  subst ho
  exact h W H A J S (Fr.refl _ _ _) wk
theorem ei_seq (h : EX X Wx e f) : EI X Wx tg e (iSeq f) := by
  refine PI.wk (pi_seq h) ?_
  rintro σ H R ⟨ρ, W, env, A, S, h⟩
  refine tG_then S h fun d W1 H1 env1 A1 v S1 F1 r1 h1 => ?_
  cases d with
  | list ds =>
    simp only [Rep] at r1
    obtain ⟨a, vs, rfl, q, l⟩ := r1
    exact .inl ⟨a, rfl, ⟨vs, .of (S1.sub _ _ q)⟩, wk_of S1 h1 rfl (wk_list q l)⟩
  | tuple ds =>
    simp only [Rep] at r1
    obtain ⟨a, vs, rfl, q, l⟩ := r1
    exact .inr ⟨a, rfl, ⟨vs, Same.sqt S1.sub q⟩, wk_of S1 h1 rfl (wk_tup q l)⟩
  | _ => exact h1.elim
theorem RepL.int1 {K : PySem.W.Frag} {w : World} {W : Hp} {j : Int} {vs : List V} (h : RepL K w W [.int j] vs) : vs = [.int j] := by
  simp only [RepL, Rep] at h
  obtain ⟨v, r, rfl, rfl, rfl⟩ := h
  rfl
theorem RepL.int2 {K : PySem.W.Frag} {w : World} {W : Hp} {i j : Int} {vs : List V} (h : RepL K w W [.int i, .int j] vs) : vs = [.int i, .int j] := by
  simp only [RepL, Rep] at h
  obtain ⟨v, r, rfl, rfl, v', r', rfl, rfl, rfl⟩ := h
  rfl
theorem RepL.int3 {K : PySem.W.Frag} {w : World} {W : Hp} {i j k : Int} {vs : List V} (h : RepL K w W [.int i, .int j, .int k] vs) : vs = [.int i, .int j, .int k] := by
  simp only [RepL, Rep] at h
  obtain ⟨v, r, rfl, rfl, v', r', rfl, rfl, v'', r'', rfl, rfl, rfl⟩ := h
  rfl
theorem ei_rng1 (hg : Gl X "range") (hm : X.mg "range" = none) (h : EA X Wx [a] g) (hs : starEach [a] X.env = [(false, eval a X.env)] := by rfl) : EI X Wx tg (.Call (.Name "range" p) [a] [] pos) (iArgs rng1 g) := by
  refine PI.wk (pi_range1 hg hm h hs) ?_
  rintro σ H R ⟨ρ, W, env, A, S, h⟩
  refine tG_then S h fun ds W1 H1 env1 A1 vs S1 F1 r1 h1 => ?_
  simp only [rng1] at h1
  split at h1
  · split at h1
    · rename_i c
      obtain ⟨c1, c2⟩ := s62_iff.mp c
      exact ⟨_, r1.int1, c1, c2, wk_of S1 h1 rfl wk_rng⟩
    · exact h1.elim
  · exact h1.elim
theorem ei_rng2 (hg : Gl X "range") (hm : X.mg "range" = none) (h : EA X Wx [a, b] g) (hs : starEach [a, b] X.env = [(false, eval a X.env), (false, eval b X.env)] := by rfl) (hs2 : starEach [b] X.env = [(false, eval b X.env)] := by rfl) :
    EI X Wx tg (.Call (.Name "range" p) [a, b] [] pos) (iArgs rng2 g) := by
  refine PI.wk (pi_range2 hg hm h hs hs2) ?_
  rintro σ H R ⟨ρ, W, env, A, S, h⟩
  refine tG_then S h fun ds W1 H1 env1 A1 vs S1 F1 r1 h1 => ?_
  simp only [rng2] at h1
  split at h1
  · split at h1
    · rename_i c
      rw [Bool.and_eq_true, s62_iff, s62_iff] at c
      exact ⟨_, _, r1.int2, ⟨c.1.1, c.1.2, c.2.1, c.2.2⟩, wk_of S1 h1 rfl wk_rng⟩
    · exact h1.elim
  · exact h1.elim
theorem ei_rng3 (hg : Gl X "range") (hm : X.mg "range" = none) (h : EA X Wx [a, b, c] g) (hs : starEach [a, b, c] X.env = (false, eval a X.env) :: starEach [b, c] X.env := by rfl) (hpl : (backTo pos (starEach [b, c] X.env)).any (·.1) = false := by rfl) :
    EI X Wx tg (.Call (.Name "range" p) [a, b, c] [] pos) (iArgs rng3 g) := by
  refine PI.wk (pi_range3 hg hm h hs hpl) ?_
  rintro σ H R ⟨ρ, W, env, A, S, h⟩
  refine tG_then S h fun ds W1 H1 env1 A1 vs S1 F1 r1 h1 => ?_
  simp only [rng3] at h1
  split at h1
  · split at h1
    · rename_i i j k c
      exact ⟨_, _, _, rngN i j k, r1.int3, ⟨c.1, c.2.1, c.2.2, PyProof.Rows.rangeSize_toNat i j k⟩, wk_of S1 h1 rfl wk_rngC⟩
    · exact h1.elim
  · exact h1.elim
end

/-! ### built-ins by values -/
theorem RepL.one {K : PySem.W.Frag} {w : World} {W : Hp} {d : D} {vs : List V} (h : RepL K w W [d] vs) : ∃ v, vs = [v] ∧ Rep K w W d v := by
  simp only [RepL] at h
  obtain ⟨v, r, rfl, h1, rfl⟩ := h
  exact ⟨v, rfl, h1⟩
theorem RepL.two {K : PySem.W.Frag} {w : World} {W : Hp} {d d' : D} {vs : List V} (h : RepL K w W [d, d'] vs) : ∃ v u, vs = [v, u] ∧ Rep K w W d v ∧ Rep K w W d' u := by
  simp only [RepL] at h
  obtain ⟨v, r, rfl, h1, u, r', rfl, h2, rfl⟩ := h
  exact ⟨v, u, rfl, h1, h2⟩
def absD : List D → Option D
  | [.int i] => some (.int (if i < 0 then -i else i))
  | _ => none
def intD : List D → Option D
  | [.int i] => some (.int i)
  | [.bool b] => some (.int (if b then 1 else 0))
  | _ => none
def max2D : List D → Option D
  | [.int i, .int j] => some (.int (if j > i then j else i))
  | _ => none
def min2D : List D → Option D
  | [.int i, .int j] => some (.int (if j < i then j else i))
  | _ => none
def listD : List D → Option D
  | [.list ds] => some (.list ds)
  | [.tuple ds] => some (.list ds)
  | _ => none
def tupleD : List D → Option D
  | [.list ds] => some (.tuple ds)
  | [.tuple ds] => some (.tuple ds)
  | _ => none
def boolsD : List D → Option (List Bool)
  | [] => some []
  | .bool b :: r => (boolsD r).map (b :: ·)
  | _ => none
def intsD : List D → Option (List Int)
  | [] => some []
  | .int b :: r => (intsD r).map (b :: ·)
  | _ => none
def allD : List D → Option D
  | [.list ds] => (boolsD ds).map fun bs => .bool (bs.all id)
  | _ => none
def anyD : List D → Option D
  | [.list ds] => (boolsD ds).map fun bs => .bool (bs.any id)
  | _ => none
def sumD : List D → Option D
  | [.list ds] => (intsD ds).map fun bs => .int bs.sum
  | _ => none
section
variable {X : Cx} {K : PySem.W.Frag} {w : World} {W : Hp}
theorem boolsD_rep : ∀ {ds : List D} {vs : List V} {bs : List Bool}, RepL K w W ds vs → boolsD ds = some bs → vs = bs.map V.bl
  | [], vs, bs, h, e => by
    simp only [RepL] at h
    cases e
    exact h
  | d :: ds, vs, bs, h, e => by
    simp only [RepL] at h
    obtain ⟨v, r, rfl, h1, h2⟩ := h
    cases d with
    | bool b =>
      unfold boolsD at e
      obtain ⟨cs, e1, rfl⟩ := Option.map_eq_some_iff.mp e
      rw [boolsD_rep h2 e1]
      simp only [Rep] at h1
      rw [h1]
      rfl
    | _ => cases e
theorem intsD_rep : ∀ {ds : List D} {vs : List V} {bs : List Int}, RepL K w W ds vs → intsD ds = some bs → vs = bs.map V.int
  | [], vs, bs, h, e => by
    simp only [RepL] at h
    cases e
    exact h
  | d :: ds, vs, bs, h, e => by
    simp only [RepL] at h
    obtain ⟨v, r, rfl, h1, h2⟩ := h
    cases d with
    | int b =>
      unfold intsD at e
      obtain ⟨cs, e1, rfl⟩ := Option.map_eq_some_iff.mp e
      rw [intsD_rep h2 e1]
      simp only [Rep] at h1
      rw [h1]
      rfl
    | _ => cases e
theorem cr_abs : CallR X (.builtin "abs") (tVn X.K X.w absD) := by
  refine CallR.wk call_abs ?_
  rintro vs H Q ⟨W, ds, s, r, h⟩
  unfold absD at h
  split at h
  · exact ⟨_, r.int1, h.flat s rfl⟩
  · exact h.elim
theorem cr_int : CallR X (.type "int") (tVn X.K X.w intD) := by
  refine CallR.wk call_int1 ?_
  rintro vs H Q ⟨W, ds, s, r, h⟩
  unfold intD at h
  split at h
  · exact .inl ⟨_, r.int1, h.flat s rfl⟩
  · obtain ⟨v, rfl, rv⟩ := r.one
    simp only [Rep] at rv
    subst rv
    exact .inr ⟨_, rfl, h.flat s rfl⟩
  · exact h.elim
theorem cr_max2 (hc : X.calm = true) : CallR X (.builtin "max") (tVn X.K X.w max2D) := by
  refine CallR.wk (call_max2 hc) ?_
  rintro vs H Q ⟨W, ds, s, r, h⟩
  unfold max2D at h
  split at h
  · exact ⟨_, _, r.int2, h.flat s rfl⟩
  · exact h.elim
theorem cr_min2 (hc : X.calm = true) : CallR X (.builtin "min") (tVn X.K X.w min2D) := by
  refine CallR.wk (call_min2 hc) ?_
  rintro vs H Q ⟨W, ds, s, r, h⟩
  unfold min2D at h
  split at h
  · exact ⟨_, _, r.int2, h.flat s rfl⟩
  · exact h.elim
theorem cr_list : CallR X (.type "list") (tWn X.K X.w listD) := by
  refine CallR.wk call_list_of ?_
  rintro vs H Q ⟨W, ds, s, r, h⟩
  unfold listD at h
  split at h
  · obtain ⟨v, rfl, rv⟩ := r.one
    simp only [Rep] at rv
    obtain ⟨a, us, rfl, q, l⟩ := rv
    exact ⟨a, us, rfl, .inl (.of (s _ _ q)), fun p n => h.lst s l n⟩
  · obtain ⟨v, rfl, rv⟩ := r.one
    simp only [Rep] at rv
    obtain ⟨a, us, rfl, q, l⟩ := rv
    exact ⟨a, us, rfl, .inr (Same.sqt s q), fun p n => h.lst s l n⟩
  · exact h.elim
theorem cr_tuple : CallR X (.type "tuple") (tVn X.K X.w tupleD) := by
  refine CallR.wk call_tuple_of ?_
  rintro vs H Q ⟨W, ds, s, r, h⟩
  unfold tupleD at h
  split at h
  · obtain ⟨v, rfl, rv⟩ := r.one
    simp only [Rep] at rv
    obtain ⟨a, us, rfl, q, l⟩ := rv
    exact ⟨a, us, rfl, .inl ⟨.of (s _ _ q), fun p n => h.tup s l n⟩⟩
  · obtain ⟨v, rfl, rv⟩ := r.one
    have rv' := rv
    simp only [Rep] at rv
    obtain ⟨a, us, rfl, q, l⟩ := rv
    exact ⟨a, us, rfl, .inr ⟨Same.sqt s q, h.flat s rv'⟩⟩
  · exact h.elim
theorem cr_allD (hc : X.calm = true) : CallR X (.builtin "all") (tVn X.K X.w allD) := by
  refine CallR.wk (cr_all hc) ?_
  rintro vs H Q ⟨W, ds, s, r, h⟩
  unfold allD at h
  split at h
  · rename_i xs
    obtain ⟨v, rfl, rv⟩ := r.one
    simp only [Rep] at rv
    obtain ⟨a, us, rfl, q, l⟩ := rv
    cases e : boolsD xs with
    | none => rw [e] at h; exact h.elim
    | some bs =>
      rw [e] at h
      have eu := boolsD_rep l e
      subst eu
      exact ⟨a, bs, rfl, .of (s _ _ q), h.flat s rfl⟩
  · exact h.elim
theorem cr_anyD (hc : X.calm = true) : CallR X (.builtin "any") (tVn X.K X.w anyD) := by
  refine CallR.wk (cr_any hc) ?_
  rintro vs H Q ⟨W, ds, s, r, h⟩
  unfold anyD at h
  split at h
  · rename_i xs
    obtain ⟨v, rfl, rv⟩ := r.one
    simp only [Rep] at rv
    obtain ⟨a, us, rfl, q, l⟩ := rv
    cases e : boolsD xs with
    | none => rw [e] at h; exact h.elim
    | some bs =>
      rw [e] at h
      have eu := boolsD_rep l e
      subst eu
      exact ⟨a, bs, rfl, .of (s _ _ q), h.flat s rfl⟩
  · exact h.elim
theorem cr_sumD (hc : X.calm = true) : CallR X (.builtin "sum") (tVn X.K X.w sumD) := by
  refine CallR.wk (cr_sum hc) ?_
  rintro vs H Q ⟨W, ds, s, r, h⟩
  unfold sumD at h
  split at h
  · rename_i xs
    obtain ⟨v, rfl, rv⟩ := r.one
    simp only [Rep] at rv
    obtain ⟨a, us, rfl, q, l⟩ := rv
    cases e : intsD xs with
    | none => rw [e] at h; exact h.elim
    | some bs =>
      rw [e] at h
      have eu := intsD_rep l e
      subst eu
      exact ⟨a, bs, rfl, .of (s _ _ q), h.flat s rfl⟩
  · exact h.elim

/-! ### sorted, by the data's own order -/
open PySem.W in
theorem each_reads {pins : List (Addr × Obj)} {σ : L2.St} {s : Shared} {H : Hp} (I : Inv X pins σ H s) (e : Same W H) : ∀ {ds : List D} {vs : List V} {us : List Value}, RepL X.K X.w W ds vs → Vals vs us →
    EachIs (fun u d => ∃ v, RelV v u ∧ Rep X.K X.w W d v) us ds ∧ EachIs (fun u d => ∃ as, Reads s.heap u (id d) as) us ds
  | [], _, _, h, r => by
    simp only [RepL] at h
    subst h
    cases r
    exact ⟨.nil, .nil⟩
  | d :: ds, _, _, h, r => by
    simp only [RepL] at h
    obtain ⟨v, q, rfl, h1, h2⟩ := h
    cases r with
    | cons r1 r2 =>
      obtain ⟨a, b⟩ := each_reads I e h2 r2
      exact ⟨.cons ⟨v, r1, h1⟩ a, .cons (Rep.reads I e d v _ h1 r1) b⟩
/-- data that sorted serves -/
def srtOk (ds : List D) : Bool := (ds.all fun x => ds.all fun y => PySem.W.alike x y) && ((ds.all fun x => match x with
    | .tuple (_ :: _) => true
    | _ => false) || ds.all fun x => match x with
    | .none => false
    | .tuple _ => false
    | _ => true) && ds.all fun x => decide (x.depth ≤ 60)
def dLe : D → D → Bool := PySem.W.dataLe false id
def sortL (ds : List D) : List D := ds.mergeSort dLe
def sortedD : List D → Option D
  | [.list ds] => if srtOk ds then some (.list (sortL ds)) else none
  | _ => none
theorem srtOk_alike {ds : List D} (h : srtOk ds = true) : PySem.W.AllAlike (ds.map id) := by
  intro x hx y hy
  rw [List.map_id] at hx hy
  simp only [srtOk, Bool.and_eq_true, List.all_eq_true] at h
  exact h.1.1 x hx y hy
theorem srtOk_sortable {ds : List D} (h : srtOk ds = true) : PySem.W.Sortable (ds.map id) := by
  simp only [srtOk, Bool.and_eq_true, Bool.or_eq_true, List.all_eq_true] at h
  rw [List.map_id]
  rcases h.1.2 with q | q
  · refine .inl fun d hd => ?_
    have := q d hd
    split at this
    · exact ⟨_, _, rfl⟩
    · cases this
  · refine .inr fun d hd => ?_
    have := q d hd
    split at this
    · cases this
    · cases this
    · rename_i a b
      exact ⟨fun e => a e, fun xs e => b xs e⟩
theorem srtOk_depth {ds : List D} (h : srtOk ds = true) : ∀ d ∈ ds, d.depth ≤ 60 := by
  simp only [srtOk, Bool.and_eq_true, List.all_eq_true, decide_eq_true_eq] at h
  exact h.2
section
variable {X : Cx}
theorem vals_of_each {P : Value → D → Prop} {W : Hp} : ∀ {us : List Value} {ds : List D}, PySem.W.EachIs (fun u d => ∃ v, RelV v u ∧ Rep X.K X.w W d v) us ds → ∃ vs, Vals vs us ∧ RepL X.K X.w W ds vs
  | _, _, .nil => ⟨[], .nil, RepL.nil⟩
  | _, _, .cons ⟨v, h1, h2⟩ t => by
    obtain ⟨vs, r, l⟩ := vals_of_each (P := P) t
    exact ⟨v :: vs, .cons h1 r, RepL.cons h2 l⟩
theorem cr_sortedD (hu : X.A.units + 64 < cLine) : CallR X (.builtin "sorted") (tWn X.K X.w sortedD) := by
  intro pins s σ H vs us Q I r h
  obtain ⟨W, ds, sm, rl, h⟩ := h
  unfold sortedD at h
  have fin : ∀ {xs : List D} {its ws : List Value} {zs : List V}, RepL X.K X.w W xs zs → Vals zs ws → srtOk xs = true → onW X.K X.w W H (some (.list (sortL xs))) Q → xs.length ≤ sizeLine →
      ∀ out : List Value, out.length = xs.length → PySem.W.EachIs (fun u d => ∃ v, RelV v u ∧ Rep X.K X.w W d v) out (xs.mergeSort (PySem.W.dataLe false id)) →
      EP X pins σ Q (.ref (s.heap.objs.size + 1)) { s with heap := sortedAll s.heap ws out.toArray } := by
    intro xs its ws zs rz rv ok hq hz out hl he
    obtain ⟨ys, ry, ly⟩ := vals_of_each (P := fun _ _ => True) he
    obtain ⟨ep, at'⟩ := PyProof.Rows.sortedAll_at s.heap ws out.toArray
    have nf : H (s.heap.objs.size + 1) = none := I.hok.fresh (Nat.le_succ _)
    refine ⟨.ref _, upd H (s.heap.objs.size + 1) (.lst ys), I.laid (t' := s.toks) (fun _ _ => PyProof.Rows.sortedAll_old) (Nat.le_succ _) ⟨?_, out, ep, ry, at'⟩, rfl, hq.lst sm ly nf⟩
    rw [ly.len]
    show (xs.mergeSort _).length ≤ _
    rw [List.length_mergeSort]
    exact hz
  split at h
  · rename_i xs
    split at h
    · rename_i ok
      obtain ⟨v, rfl, rv⟩ := rl.one
      simp only [Rep] at rv
      obtain ⟨a, zs, rfl, q, l⟩ := rv
      obtain ⟨ws, r1, pl, hz⟩ := I.list (.of (sm _ _ q))
      obtain ⟨u, rfl, ru⟩ := vals1 r
      cases ru
      obtain ⟨e1, e2⟩ := each_reads I sm l r1
      refine PySem.W.sorted_data (bs := xs) (enc := id) (R := fun u d => ∃ v, RelV v u ∧ Rep X.K X.w W d v) pl.isList e1 e2 (srtOk_alike ok) (srtOk_sortable ok) (by rw [← l.len]; exact hz) (fun b hb => ?_) fun out hl he => ?_
      · have := srtOk_depth ok b hb
        show X.A.units + 2 + b.depth < cLine
        omega
      · exact fin (its := ws) l r1 ok h (by rw [← l.len]; exact hz) out hl he
    · exact h.elim
  · exact h.elim
end
end
end DP
set_option Elab.async false
set_option linter.all false
set_option maxRecDepth 100000
/-! DP, part 10: slices. -/
namespace DP
open PySem PySem.Spec PyProof.Rows L2

abbrev PF := Ev → Out (Option Int × Ev)
abbrev tP (X : Cx) (Wx : WX) (f : PF) : TO := tG X.K X.w X.mg Wx (fun _ a b => b = a) f
abbrev EO (X : Cx) (Wx : WX) (e : Option Expr) (f : PF) : Prop := PO X e (tP X Wx f)
def pNo : PF := fun env => .ok (none, env)
def asI (r : D × Ev) : Out (Option Int × Ev) := match r.1 with
  | .int i => .ok (some i, r.2)
  | _ => .bad
def pAt (f : XF) : PF := fun env => (f env).bind asI
def cutL {α : Type} (xs : List α) (lo hi : Option Int) : List α := (xs.drop (HT.sIx xs.length 0 lo)).take (HT.sIx xs.length xs.length hi - HT.sIx xs.length 0 lo)
def slD : D → Option Int → Option Int → Option D
  | .list ds, l, h => some (.list (cutL ds l h))
  | .tuple ds, l, h => some (.tuple (cutL ds l h))
  | .str x, l, h => if x.length ≤ sizeLine then some (.str (cutS x l h)) else none
  | _, _, _ => none
def xSl (f : XF) (pl ph : PF) : XF := fun env => (f env).bind fun r => (pl r.2).bind fun l => (ph l.2).bind fun h => liftO (slD r.1 l.1 h.1) h.2
section
variable {X : Cx} {Wx : WX} {e : Expr} {f : XF} {lo hi : Option Expr} {pl ph : PF} {pos p2 : Pos} {K : PySem.W.Frag} {w : World} {W : Hp}
theorem RepL.cut {ds : List D} {vs : List V} (h : RepL K w W ds vs) (l u : Option Int) : RepL K w W (cutL ds l u) (cutV vs l u) := by
  unfold cutL cutV
  rw [h.len]
  exact (h.drop _).take _
theorem eo_none : EO X Wx none pNo := by
  refine ⟨fun pins s σ H Q I q => po_none.run pins s σ H Q I ?_⟩
  obtain ⟨ρ, W, env, A, S, h⟩ := q
  exact h W H A none S (Fr.refl _ _ _) rfl
theorem eo_some (h : EX X Wx e f) : EO X Wx (some e) (pAt f) := by
  refine ⟨fun pins s σ H Q I q => (po_some h).run pins s σ H Q I ?_⟩
  obtain ⟨ρ, W, env, A, S, h⟩ := q
  refine tG_then S h fun d W1 H1 env1 A1 v S1 F1 r1 h1 => ?_
  cases d with
  | int i =>
    simp only [Rep] at r1
    exact ⟨i, r1, h1 W1 H1 A1 _ S1 (Fr.refl _ _ _) rfl⟩
  | _ => exact h1.elim
theorem ex_slice (h : EX X Wx e f) (hl : EO X Wx lo pl) (hh : EO X Wx hi ph) : EX X Wx (.Subscript e (.Slice lo hi none p2) pos) (xSl f pl ph) := by
  refine PE.wk (pe_slice (SlR.or sl_list (SlR.or sl_tupA sl_str)) h hl hh) ?_
  rintro σ H Q ⟨ρ, W, env, A, S, h⟩
  refine tG_then S h fun d W1 H1 env1 A1 v S1 F1 r1 h1 => ?_
  refine tG_then S1 h1 fun l W2 H2 env2 A2 l' S2 F2 r2 h2 => ?_
  refine tG_then S2 h2 fun u W3 H3 env3 A3 u' S3 F3 r3 h3 => ?_
  subst r2 r3
  have h4 := onV_of S3 h3
  have r4 := Rep.mono (F2.ext.trans F3.ext) d v r1
  dsimp only at h4
  cases d with
  | list ds =>
    simp only [Rep] at r4
    obtain ⟨a, vs, rfl, q, r⟩ := r4
    exact .inl ⟨a, vs, rfl, .of (S3.sub _ _ q), fun p n => h4.lst S3.sub (r.cut _ _) n⟩
  | tuple ds =>
    have r5 := r4
    simp only [Rep] at r4
    obtain ⟨a, vs, rfl, q, r⟩ := r4
    refine .inr (.inl ⟨a, vs, rfl, Same.sqt S3.sub q, fun hw => h4.flat S3.sub ?_, fun hw p n => h4.tup S3.sub (r.cut _ _) n⟩)
    have e1 : cutL ds l' u' = ds := by
      unfold cutL
      rw [r.len] at hw
      rw [hw.1, hw.2, List.drop_zero, Nat.sub_zero, List.take_length]
    rw [e1]
    exact r5
  | str x =>
    simp only [Rep] at r4
    simp only [slD] at h4
    split at h4
    · rename_i c
      exact .inr (.inr ⟨x, r4, c, h4.flat S3.sub rfl⟩)
    · exact h4.elim
  | _ => exact h4.elim
/-- a slice of a list, one's own -/
def xSlN (f : XF) (pl ph : PF) : XF := fun env => (f env).bind fun r => (pl r.2).bind fun l => (ph l.2).bind fun h => liftO (match r.1 with
  | .list ds => some (.list (cutL ds l.1 h.1))
  | _ => none) h.2
theorem en_slice (h : EX X Wx e f) (hl : EO X Wx lo pl) (hh : EO X Wx hi ph) : EN X Wx (.Subscript e (.Slice lo hi none p2) pos) (xSlN f pl ph) := by
  refine PE.wk (pe_slice sl_list h hl hh) ?_
  rintro σ H Q ⟨ρ, W, env, A, S, h⟩
  refine tN_then S h fun d W1 H1 env1 A1 v S1 F1 r1 h1 => ?_
  refine tN_then S1 h1 fun l W2 H2 env2 A2 l' S2 F2 r2 h2 => ?_
  refine tN_then S2 h2 fun u W3 H3 env3 A3 u' S3 F3 r3 h3 => ?_
  subst r2 r3
  have h4 := onW_of S3 h3
  have r4 := Rep.mono (F2.ext.trans F3.ext) d v r1
  dsimp only at h4
  cases d with
  | list ds =>
    simp only [Rep] at r4
    obtain ⟨a, vs, rfl, q, r⟩ := r4
    exact ⟨a, vs, rfl, .of (S3.sub _ _ q), fun p n => h4.lst S3.sub (r.cut _ _) n⟩
  | _ => exact h4.elim
end
end DP
set_option Elab.async false
set_option linter.all false
set_option maxRecDepth 100000
/-! DP, part 11: dicts whose keys are any data that may be keys. -/
namespace DP
open PySem PySem.Spec PyProof.Rows L2
open Sem (wp)

/-- the entries es have the keys ks -/
structure Ents (w : World) (h : Heap) (ks : List NestedKey) (es : Array DictEntry) : Prop where
  len : ks.length = es.size
  ent : ∀ (i : Nat) e, es[i]? = some e → ∃ k, ks[i]? = some k ∧ NestedIs h k e.key ∧ k.depth ≤ 8 ∧ e.hash = k.hash w
  nd : ks.Nodup
section
variable {prog : Program} {w : World} {A : Around} {E : Value → Shared → Prop} {s : Shared} {a : Addr} {o : Obj} {es : Array DictEntry} {ep : Nat} {ks : List NestedKey} {k : NestedKey} {u : Value}
theorem Ents.get (N : Ents w s.heap ks es) {i : Nat} (h : ks[i]? = some k) : ∃ e, es[i]? = some e ∧ NestedIs s.heap k e.key ∧ k.depth ≤ 8 ∧ e.hash = k.hash w := by
  have hi : i < es.size := by rw [← N.len]; exact (List.getElem?_eq_some_iff.mp h).1
  obtain ⟨k', h1, h2, h3, h4⟩ := N.ent i es[i] (Array.getElem?_eq_getElem hi)
  rw [h] at h1
  cases h1
  exact ⟨_, Array.getElem?_eq_getElem hi, h2, h3, h4⟩
theorem Ents.one (N : Ents w s.heap ks es) {i j : Nat} (h : ks[i]? = some k) (h' : ks[j]? = some k) : i = j := by
  obtain ⟨hi, e⟩ := List.getElem?_eq_some_iff.mp h
  obtain ⟨hj, e'⟩ := List.getElem?_eq_some_iff.mp h'
  exact (List.getElem_inj N.nd).mp (e.trans e'.symm)
theorem eqBool_key {v : Value} {x y : NestedKey} {Q : Bool → Shared → Prop} (hu : A.units + 8 < cLine) (hx : NestedIs s.heap x u) (hy : NestedIs s.heap y v) (d : x.depth ≤ 8) (h : Q (decide (x = y)) s) : wpAny (model prog w) A (eqBool u v) Q E s :=
  eqAt_key x y A s u v hx hy (by omega) prog w E Q (by rw [← NestedKey.decide_eq]; exact h)
/-- the places of one hash -/
abbrev plcs (es : Array DictEntry) (h : Int) : List Nat := placesWithHash es.size (fun i => es[i]?.map (·.hash)) h
theorem mem_plcs {h : Int} {i : Nat} : i ∈ plcs es h ↔ ∃ e, es[i]? = some e ∧ e.hash = h := by
  unfold plcs placesWithHash
  rw [List.mem_filter, List.mem_range]
  constructor
  · rintro ⟨h1, h2⟩
    dsimp only at h2
    rw [Array.getElem?_eq_getElem h1] at h2
    exact ⟨_, Array.getElem?_eq_getElem h1, by simpa using h2⟩
  · rintro ⟨e, h1, h2⟩
    refine ⟨(Array.getElem?_eq_some_iff.mp h1).1, ?_⟩
    dsimp only
    rw [h1, ← h2]
    simp
theorem nodup_plcs {h : Int} : (plcs es h).Nodup := List.nodup_range.filter _
/-- what a search has to give -/
def Hit (ks : List NestedKey) (k : NestedKey) (r : Option Nat) : Prop := match r with
  | none => k ∉ ks
  | some j => ks[j]? = some k
theorem walkPlain (N : Ents w s.heap ks es) (hu : A.units + 8 < cLine) (ho : s.heap.get? a = some o) (hd : o.data = .dict es ep) (hk : NestedIs s.heap k u) {Q : Option Nat → Shared → Prop} (h : ∀ r, Hit ks k r → Q r s) :
    wpAny (model prog w) A (dictWalkPlain a u (k.hash w) es (plcs es (k.hash w))) Q E s := by
  unfold dictWalkPlain
  refine wpAny_bind ?_
  refine wpAny_forIn_list _ (fun rest b s' => s' = s ∧ b = (none, PUnit.unit) ∧ (∀ i ∈ rest, i ∈ plcs es (k.hash w)) ∧ ∀ i, ks[i]? = some k → i ∈ rest) _ ?_ ?_ _ _ ⟨rfl, rfl, fun _ h => h, fun i hi => ?_⟩
  · rintro i rest b s' ⟨rfl, rfl, h1, h2⟩
    obtain ⟨e, e1, e2⟩ := mem_plcs.mp (h1 i List.mem_cons_self)
    obtain ⟨k', f1, f2, f3, f4⟩ := N.ent i e e1
    rw [e1]
    dsimp only
    rw [if_pos (by simp [e2])]
    refine wpAny_bind (wpAny_dictEpoch ho hd (wpAny_bind (eqBool_key hu f2 hk f3 (wpAny_bind (wpAny_dictEpoch ho hd ?_)))))
    rw [if_neg (by simp)]
    by_cases hkk : k' = k
    · subst hkk
      rw [decide_eq_true rfl, if_pos rfl]
      exact wpAny_bind (wpAny_rule (wpAny_pure (wpAny_pure (h (some i) f1))))
    · rw [decide_eq_false hkk, if_neg Bool.false_ne_true]
      refine wpAny_bind (wpAny_rule (wpAny_pure ⟨rfl, rfl, fun j hj => h1 j (List.mem_cons_of_mem _ hj), fun j hj => ?_⟩))
      rcases List.mem_cons.mp (h2 j hj) with q | q
      · subst q
        rw [f1] at hj
        cases hj
        exact absurd rfl hkk
      · exact q
  · rintro b s' ⟨rfl, rfl, _, h2⟩
    refine wpAny_pure (h none fun hm => ?_)
    obtain ⟨j, hj⟩ := List.getElem?_of_mem hm
    exact absurd (h2 j hj) (by simp)
  · obtain ⟨e, e1, e2, e3, e4⟩ := N.get hi
    exact mem_plcs.mpr ⟨e, e1, e4⟩
theorem quiet_at {Q : Bool → Shared → Prop} (hk : NestedIs s.heap k u) (d : k.depth ≤ 8) (h : Q true s) : wpAny (model prog w) A (eqIsQuiet 8 u) Q E s := quiet_key k u 8 s hk d A E Q h
theorem tellsNot (hk : NestedIs s.heap k u) (d : k.depth ≤ 8) {stored : List Value} (hs : ∀ v ∈ stored, ∃ k', NestedIs s.heap k' v ∧ k'.depth ≤ 8) {Q : Bool → Shared → Prop} (h : Q false s) :
    wpAny (model prog w) A (tableMayTell u stored) Q E s := by
  unfold tableMayTell
  split
  · exact wpAny_pure h
  · refine wpAny_bind (quiet_at hk d ?_)
    rw [if_neg (by decide)]
    refine wpAny_bind ?_
    refine wpAny_forIn_list _ (fun rest r s' => s' = s ∧ r = (none, PUnit.unit) ∧ ∀ v ∈ rest, ∃ k', NestedIs s.heap k' v ∧ k'.depth ≤ 8) _ ?_ ?_ _ _ ⟨rfl, rfl, hs⟩
    · rintro x rest r s' ⟨rfl, rfl, hr⟩
      obtain ⟨k', h1, h2⟩ := hr x List.mem_cons_self
      refine wpAny_bind (quiet_at h1 h2 ?_)
      rw [if_neg (by decide)]
      exact wpAny_pure ⟨rfl, rfl, fun v hv => hr v (List.mem_cons_of_mem _ hv)⟩
    · rintro r s' ⟨rfl, rfl, _⟩
      exact wpAny_pure h
theorem wp_if {α : Type} {M : Model} {c : Prop} [Decidable c] {t e : Sem α} {Q : α → Shared → Prop} (h1 : c → wpAny M A t Q E s) (h2 : ¬ c → wpAny M A e Q E s) : wpAny M A (if c then t else e) Q E s := by
  by_cases h : c
  · rw [if_pos h]; exact h1 h
  · rw [if_neg h]; exact h2 h
theorem text_of {x : Str} {t : Tok} (h : NestedIs s.heap k (.str x t)) : k = .text x := by cases h; rfl
/-- THE SEARCH: whatever the keys are -/
theorem dictFind_any (N : Ents w s.heap ks es) (hu : A.units + 8 < cLine) (ho : s.heap.get? a = some o) (hd : o.data = .dict es ep) (hk : NestedIs s.heap k u) (dk : k.depth ≤ 8) {Q : Option Nat → Shared → Prop} (h : ∀ r, Hit ks k r → Q r s) :
    wpAny (model prog w) A (dictFind a u (k.hash w)) Q E s := by
  -- by value
  have byV : ∀ (x : Str) (t : Tok), u = .str x t → wpAny (model prog w) A (foundByValue a u es x) Q E s := by
    rintro x t rfl
    have ek := text_of hk
    subst ek
    unfold foundByValue
    cases ef : es.findIdx? (·.key.isStr x) with
    | none =>
      refine wpAny_pure (h none fun hm => ?_)
      obtain ⟨j, hj⟩ := List.getElem?_of_mem hm
      obtain ⟨e, e1, e2, _⟩ := N.get hj
      have hin : e ∈ es := Array.mem_of_getElem? e1
      have q := Array.findIdx?_eq_none_iff.mp ef e hin
      generalize e.key = kv at e2 q
      cases e2
      simp [Value.isStr] at q
    | some i =>
      have hi := Array.findIdx?_eq_some_iff_getElem.mp ef
      obtain ⟨hlt, hx, _⟩ := hi
      have e1 : es[i]? = some es[i] := Array.getElem?_eq_getElem hlt
      obtain ⟨k', f1, f2, f3, f4⟩ := N.ent i _ e1
      have ek : k' = .text x := by
        generalize es[i].key = kv at f2 hx
        cases kv with
        | str y t' =>
          have := text_of f2
          simp [Value.isStr] at hx
          rw [this, hx]
        | _ => simp [Value.isStr] at hx
      subst ek
      dsimp only
      rw [e1]
      dsimp only
      refine wpAny_bind (wpAny_dictEpoch ho hd (wpAny_bind (eqBool_key hu f2 hk f3 (wpAny_bind (wpAny_dictEpoch ho hd ?_)))))
      rw [if_neg (by simp), decide_eq_true rfl, if_pos rfl]
      exact wpAny_bind (wpAny_rule (wpAny_pure (h (some i) f1)))
  have stAll : ∀ v ∈ (plcs es (k.hash w)).filterMap (fun i => es[i]?.map (·.key)), ∃ k', NestedIs s.heap k' v ∧ k'.depth ≤ 8 := by
    intro v hv
    obtain ⟨i, _, hi⟩ := List.mem_filterMap.mp hv
    cases e : es[i]? with
    | none => rw [e] at hi; cases hi
    | some en =>
      rw [e] at hi
      cases hi
      obtain ⟨k', _, f2, f3, _⟩ := N.ent i en e
      exact ⟨k', f2, f3⟩
  have hin : ∀ i, ks[i]? = some k → i ∈ plcs es (k.hash w) := fun i hi => by
    obtain ⟨e, e1, e2, e3, e4⟩ := N.get hi
    exact mem_plcs.mpr ⟨e, e1, e4⟩
  have noAny : ¬ (es.any fun e => e.key == u && e.hash != k.hash w) = true := by
    intro hc
    obtain ⟨i, hi, hx⟩ := Array.any_eq_true.mp hc
    obtain ⟨k', f1, f2, f3, f4⟩ := N.ent i _ (Array.getElem?_eq_getElem hi)
    simp only [Bool.and_eq_true, beq_iff_eq, bne_iff_ne, ne_eq] at hx
    rw [hx.1] at f2
    have := NestedIs.inj _ _ _ f2 hk
    subst this
    exact hx.2 f4
  unfold dictFind
  try with_reducible refine wpAny_holding ?_
  refine wpAny_bind (wpAny_dictEntries ho hd ?_)
  have hk0 := hk
  obtain ⟨isK, hisK⟩ : ∃ isK : Nat → Prop, ∀ i, isK i ↔ ks[i]? = some k := ⟨fun i => ks[i]? = some k, fun _ => Iff.rfl⟩
  obtain ⟨isP, hisP⟩ : ∃ isP : Nat → Prop, ∀ i, isP i ↔ i ∈ plcs es (k.hash w) := ⟨fun i => i ∈ plcs es (k.hash w), fun _ => Iff.rfl⟩
  have nd0 : (plcs es (k.hash w)).Nodup := nodup_plcs
  cases hk
  all_goals dsimp only
  case' text x t => refine wp_if (fun _ => byV x t rfl) fun _ => ?_
  case' text => refine wp_if (fun _ => walkPlain N hu ho hd hk0 h) fun _ => ?_
  case' tup b ob vs m ks' g1 g2 g3 g4 => rw [if_neg (by simp [carriedByValue]), if_neg noAny]
  case' none => refine wp_if (fun _ => walkPlain N hu ho hd hk0 h) fun _ => ?_
  case' bool b i hb => refine wp_if (fun _ => walkPlain N hu ho hd hk0 h) fun _ => ?_
  case' int i t => refine wp_if (fun _ => walkPlain N hu ho hd hk0 h) fun _ => ?_
  all_goals
    (refine wp_if (fun _ => wpAny_bind (wpAny_pure ?_)) fun _ => wpAny_bind (tellsNot hk0 dk stAll ?_)) <;>
    (rw [if_neg (by simp)]
     refine wpAny_bind ?_
     refine wpAny_forIn_list _ (fun rest b s' => s' = s ∧ ∃ hit, b = (none, hit) ∧ (∀ i ∈ rest, isP i) ∧ rest.Nodup ∧ ((hit = none ∧ ∀ i, isK i → i ∈ rest) ∨ ∃ j, hit = some j ∧ isK j ∧ j ∉ rest)) _ ?_ ?_ _ _ ⟨rfl, none, rfl, fun i h => (hisP i).mpr h, nd0, .inl ⟨rfl, fun i hi => hin i ((hisK i).mp hi)⟩⟩
     · rintro i rest b s' ⟨rfl, hit, rfl, h1, h2, h3⟩
       obtain ⟨e, e1, e2⟩ := mem_plcs.mp ((hisP i).mp (h1 i List.mem_cons_self))
       obtain ⟨k', f1, f2, f3, f4⟩ := N.ent i e e1
       obtain ⟨m1, m2⟩ := List.nodup_cons.mp h2
       rw [e1]
       dsimp only
       rw [if_pos (by simp [e2])]
       refine wpAny_bind (wpAny_dictEpoch ho hd (wpAny_bind (eqBool_key hu f2 hk0 f3 (wpAny_bind (wpAny_dictEpoch ho hd ?_)))))
       rw [if_neg (by simp)]
       refine wp_if (fun hc => ?_) fun hc => ?_
       · have hkk := of_decide_eq_true hc
         subst hkk
         rcases h3 with ⟨rfl, h3⟩ | ⟨j, rfl, h4, h5⟩
         · rw [if_neg (by simp)]
           refine wpAny_bind (wpAny_rule ?_)
           refine wp_if (fun _ => wpAny_pure (wpAny_pure (h (some i) f1))) fun _ => wpAny_pure ⟨rfl, some i, rfl, fun j hj => h1 j (List.mem_cons_of_mem _ hj), m2, .inr ⟨i, rfl, (hisK i).mpr f1, m1⟩⟩
         · exact absurd (by rw [N.one ((hisK j).mp h4) f1]; exact List.mem_cons_self) h5
       · have hkk : ¬ k' = _ := fun q => hc (decide_eq_true q)
         refine wpAny_bind (wpAny_rule ?_)
         rw [if_neg (by simp)]
         refine wpAny_pure ⟨rfl, hit, rfl, fun j hj => h1 j (List.mem_cons_of_mem _ hj), m2, ?_⟩
         rcases h3 with ⟨rfl, h3⟩ | ⟨j, rfl, h4, h5⟩
         · refine .inl ⟨rfl, fun j hj => (List.mem_cons.mp (h3 j hj)).resolve_left fun q => ?_⟩
           subst q
           have hj' := (hisK j).mp hj
           rw [f1] at hj'
           exact hkk (Option.some.inj hj')
         · exact .inr ⟨j, rfl, h4, fun q => h5 (List.mem_cons_of_mem _ q)⟩
     · rintro b s' ⟨rfl, hit, rfl, _, _, h3⟩
       rcases h3 with ⟨rfl, h3⟩ | ⟨j, rfl, h4, _⟩
       · refine wpAny_pure (h none fun hm => ?_)
         obtain ⟨j, hj⟩ := List.getElem?_of_mem hm
         exact absurd (h3 j ((hisK j).mpr hj)) (by simp)
       · exact wpAny_pure (h (some j) ((hisK j).mp h4)))
abbrev dobj (es : Array DictEntry) (ep : Nat) : Obj := { cls := .type "dict", data := .dict es ep }
theorem dictGet_any (N : Ents w s.heap ks es) (hu : A.units + 8 < cLine) (ho : s.heap.get? a = some (dobj es ep)) (hk : NestedIs s.heap k u) (dk : k.depth ≤ 8) {Q : Option Value → Shared → Prop}
    (h : ∀ r, Hit ks k r → Q (r.bind fun j => es[j]?.map (·.val)) { s with toks := s.toks + k.draws }) : wpAny (model prog w) A (dictGet a u) Q E s := by
  unfold dictGet
  try with_reducible refine wpAny_holding ?_
  refine wpAny_bind (pyHash_key k u A s _ hk (by omega) ?_)
  have N' : Ents w ({ s with toks := s.toks + k.draws } : Shared).heap ks es := N
  refine wpAny_bind (dictFind_any (s := { s with toks := s.toks + k.draws }) N' hu ho rfl hk dk fun r hr => ?_)
  cases r with
  | none => exact wpAny_pure (h none hr)
  | some j =>
    refine wpAny_bind (wpAny_dictEntries (s := { s with toks := s.toks + k.draws }) ho rfl ?_)
    exact wpAny_pure (h (some j) hr)
theorem dobj_type (ho : s.heap.get? a = some (dobj es ep)) : s.TypeIs (.ref a) "dict" := ⟨_, ho, rfl⟩
/-- y in d -/
theorem dcontains (N : Ents w s.heap ks es) (hu : A.units + 9 < cLine) (hs : (a == sysModules) = false) (ho : s.heap.get? a = some (dobj es ep)) (hk : NestedIs s.heap k u) (dk : k.depth ≤ 8) {Q : Bool → Shared → Prop}
    (h : ∀ t, Q (decide (k ∈ ks)) { s with toks := t }) : wpAny (model prog w) A (contains (.ref a) u) Q E s := by
  have T := dobj_type ho
  refine wpAny_contains_slot T F.slot_dict_contains ?_
  refine call_meetsIn F.slot_dict_contains T F.entry_dict_contains (F.args_dict_contains_2 _ _) (S := fun A' R s' => A' = A ∧ s' = s ∧ ∀ t, R (.ok (.ret (.bool (decide (k ∈ ks))))) { s with toks := t }) (fun A' R s' hS => ?_) ⟨rfl, rfl, fun t => wpAny_truthy_bool (h t)⟩
  obtain ⟨rfl, rfl, hq⟩ := hS
  show wpAny _ _ (dictGet a u >>= _) _ _ _
  refine wpAny_bind (dictGet_any N (by simp only [Around.in1_units]; omega) ho hk dk fun r hr => ?_)
  cases r with
  | none =>
    rw [decide_eq_false hr] at hq
    show wpAny _ _ (Builtin.Dict.pendingKey? a u >>= _) _ _ _
    exact wpAny_bind (wpAny_pendingKey_other hs (wpAny_pure (hq _)))
  | some j =>
    rw [decide_eq_true (List.mem_of_getElem? hr)] at hq
    obtain ⟨e, e1, _⟩ := N.get hr
    simp only [Option.bind_some, e1, Option.map_some]
    show wpAny _ _ (ret (.bool true)) _ _ _
    exact wpAny_pure (hq _)
/-- d[k], where it is there -/
theorem dgetItem {j : Nat} {e : DictEntry} (N : Ents w s.heap ks es) (hu : A.units + 9 < cLine) (ho : s.heap.get? a = some (dobj es ep)) (hk : NestedIs s.heap k u) (dk : k.depth ≤ 8) (hj : ks[j]? = some k) (he : es[j]? = some e) {Q : Value → Shared → Prop}
    (h : ∀ t, Q e.val { s with toks := t }) : wpAny (model prog w) A (getItem (.ref a) u) Q E s := by
  have T := dobj_type ho
  refine wpAny_getItem_slot T rfl F.slot_dict_getitem ?_
  refine call_meetsIn F.slot_dict_getitem T F.entry_dict_getitem (F.args_dict_getitem_2 _ _) (S := fun A' R s' => A' = A ∧ s' = s ∧ ∀ t, R (.ok (.ret e.val)) { s with toks := t }) (fun A' R s' hS => ?_) ⟨rfl, rfl, h⟩
  obtain ⟨rfl, rfl, hq⟩ := hS
  show wpAny _ _ (dictGet a u >>= _) _ _ _
  refine wpAny_bind (dictGet_any N (by simp only [Around.in1_units]; omega) ho hk dk fun r hr => ?_)
  cases r with
  | none => exact absurd (List.mem_of_getElem? hj) hr
  | some i =>
    have := N.one hr hj
    subst this
    simp only [Option.bind_some, he, Option.map_some]
    exact wpAny_pure (hq _)
/-- d.get(k), d.get(k, x) -/
theorem dget1 (N : Ents w s.heap ks es) (hu : A.units + 9 < cLine) (hs : (a == sysModules) = false) (ho : s.heap.get? a = some (dobj es ep)) (hk : NestedIs s.heap k u) (dk : k.depth ≤ 8) {Q : Value → Shared → Prop}
    (h : ∀ r t, Hit ks k r → Q ((r.bind fun j => es[j]?.map (·.val)).getD .none) { s with toks := t }) : wpAny (model prog w) A (call (.builtin "dict.get") [.ref a, u]) Q E s := by
  have T := dobj_type ho
  refine call_meetsIn F.slot_dict_get T F.entry_dict_get (F.args_dict_get_2 _ _) (S := fun A' R s' => A' = A ∧ s' = s ∧ ∀ r t, Hit ks k r → R (.ok (.ret ((r.bind fun j => es[j]?.map (·.val)).getD .none))) { s with toks := t }) (fun A' R s' hS => ?_) ⟨rfl, rfl, h⟩
  obtain ⟨rfl, rfl, hq⟩ := hS
  show wpAny _ _ (dictGet a u >>= _) _ _ _
  refine wpAny_bind (dictGet_any N (by simp only [Around.in1_units]; omega) ho hk dk fun r hr => ?_)
  have hq' := fun t => hq r t hr
  cases hr' : (r.bind fun j => es[j]?.map (·.val)) with
  | none =>
    rw [hr'] at hq'
    show wpAny _ _ (Builtin.Dict.missed a u >>= _) _ _ _
    unfold Builtin.Dict.missed
    rw [if_neg (by rw [hs]; exact Bool.false_ne_true)]
    exact wpAny_bind (wpAny_pure (wpAny_pure (hq' _)))
  | some v =>
    rw [hr'] at hq'
    exact wpAny_pure (hq' _)
theorem dget2 {x : Value} (N : Ents w s.heap ks es) (hu : A.units + 9 < cLine) (hs : (a == sysModules) = false) (ho : s.heap.get? a = some (dobj es ep)) (hk : NestedIs s.heap k u) (dk : k.depth ≤ 8) {Q : Value → Shared → Prop}
    (h : ∀ r t, Hit ks k r → Q ((r.bind fun j => es[j]?.map (·.val)).getD x) { s with toks := t }) : wpAny (model prog w) A (call (.builtin "dict.get") [.ref a, u, x]) Q E s := by
  have T := dobj_type ho
  refine call_meetsIn F.slot_dict_get T F.entry_dict_get (F.args_dict_get_3 _ _ _) (S := fun A' R s' => A' = A ∧ s' = s ∧ ∀ r t, Hit ks k r → R (.ok (.ret ((r.bind fun j => es[j]?.map (·.val)).getD x))) { s with toks := t }) (fun A' R s' hS => ?_) ⟨rfl, rfl, h⟩
  obtain ⟨rfl, rfl, hq⟩ := hS
  show wpAny _ _ (dictGet a u >>= _) _ _ _
  refine wpAny_bind (dictGet_any N (by simp only [Around.in1_units]; omega) ho hk dk fun r hr => ?_)
  have hq' := fun t => hq r t hr
  cases hr' : (r.bind fun j => es[j]?.map (·.val)) with
  | none =>
    rw [hr'] at hq'
    show wpAny _ _ (Builtin.Dict.missed a u >>= _) _ _ _
    unfold Builtin.Dict.missed
    rw [if_neg (by rw [hs]; exact Bool.false_ne_true)]
    exact wpAny_bind (wpAny_pure (wpAny_pure (hq' _)))
  | some v =>
    rw [hr'] at hq'
    exact wpAny_pure (hq' _)
end
end DP
set_option Elab.async false
set_option linter.all false
set_option maxRecDepth 100000
/-! DP, part 12: dicts that change. -/
namespace DP
open PySem PySem.Spec PyProof.Rows L2
open Sem (wp)
/-- the entries behind d[k] = v -/
def putE (es : List DictEntry) (r : Option Nat) (h : Int) (u v : Value) : List DictEntry := match r with
  | none => es ++ [⟨h, u, v⟩]
  | some j => es.modify j fun e => { e with val := v }
section
variable {prog : Program} {w : World} {A : Around} {E : Value → Shared → Prop} {s : Shared} {a : Addr} {o : Obj} {es : Array DictEntry} {ep : Nat} {ks : List NestedKey} {k : NestedKey} {u v : Value}
theorem dSetHashed (N : Ents w s.heap ks es) (hu : A.units + 8 < cLine) (ho : s.heap.get? a = some (dobj es ep)) (hz : es.size ≤ sizeLine) (hk : NestedIs s.heap k u) (dk : k.depth ≤ 8) {Q : Unit → Shared → Prop}
    (h : ∀ h' es' ep' r, Hit ks k r → h'.get? a = some (dobj es' ep') → Heap.SameBut a s.heap h' → es'.toList = putE es.toList r (k.hash w) u v → Q () { s with heap := h' }) :
    wpAny (model prog w) A (dictSetHashed a u (k.hash w) v) Q E s := by
  unfold dictSetHashed
  try with_reducible refine wpAny_holding ?_
  refine wpAny_bind (dictFind_any N hu ho rfl hk dk fun r hr => ?_)
  cases r with
  | none =>
    refine wpAny_bind (wpAny_rule (wpAny_updateDictKeys (hz := hz) ho rfl (h _ _ (ep + 1) none hr (Heap.get?_update_self _ ho rfl) (Heap.SameBut.update ..) ?_)))
    simp [putE]
  | some j =>
    refine wpAny_bind (wpAny_rule (wpAny_bind (wpAny_updateDict ho rfl (wpAny_point (h _ _ ep (some j) hr (Heap.get?_update_self _ ho rfl) (Heap.SameBut.update ..) ?_)))))
    obtain ⟨l⟩ := es
    simp [putE]
/-- d[k] = v -/
theorem dset (N : Ents w s.heap ks es) (hu : A.units + 9 < cLine) (ho : s.heap.get? a = some (dobj es ep)) (hz : es.size ≤ sizeLine) (hk : NestedIs s.heap k u) (dk : k.depth ≤ 8) {Q : Unit → Shared → Prop}
    (h : ∀ h' es' ep' r t, Hit ks k r → h'.get? a = some (dobj es' ep') → Heap.SameBut a s.heap h' → es'.toList = putE es.toList r (k.hash w) u v → Q () { s with heap := h', toks := t }) :
    wpAny (model prog w) A (setItem (.ref a) u v) Q E s := by
  have T := dobj_type ho
  unfold setItem
  try with_reducible refine wpAny_holding ?_
  refine wpAny_bind (wpAny_sequenceKey T (by decide) ?_)
  refine wpAny_bind (wpAny_callSpecial?_slot (name := Str.ofString "__setitem__") T F.slot_dict_setitem
    (wpAny_call_entry F.slot_dict_setitem T F.entry_dict_setitem ?_ (F.args_dict_setitem_3 _ _ _)))
  show wpAny _ _ (Builtin.Dict.notOrdered "__setitem__" ⟨[.ref a, u, v], []⟩ >>= _) _ _ s
  refine wpAny_bind (wpAny_notOrdered_dict T ?_)
  show wpAny _ _ (dictSet a u v >>= _) _ _ s
  refine wpAny_bind ?_
  unfold dictSet
  try with_reducible refine wpAny_holding ?_
  have hu1 : A.in1.units + 8 < cLine := by simp only [Around.in1_units]; omega
  refine wpAny_bind (pyHash_key k u _ s _ hk (by omega) ?_)
  exact dSetHashed (s := { s with toks := s.toks + k.draws }) N hu1 ho hz hk dk fun h' es' ep' r hr e1 e2 e3 => wpAny_pure ⟨.none, rfl, wpAny_pure (h h' es' ep' r _ hr e1 e2 e3)⟩
end
end DP
set_option Elab.async false
set_option linter.all false
set_option maxRecDepth 100000
/-! DP, part 13: calls where nothing is being shown (for repr): FnG; the law's own call. -/
namespace DP
open PySem PySem.Spec PyProof.Rows L2

/-- what a def keeps, called where no repr is under way -/
structure FnG (P : Program) (w : World) (K : PySem.W.Frag) (mg : Str → Option Value) (base : Heap) (k : Nat) (f : Addr) (fd : FuncData) (ps : List Str) (sp : Sp) : Prop where
  len : ∀ vs H Q E, sp vs H Q E → vs.length = ps.length
  go : ∀ (A : Around) (outer : List Env) (s : Shared) (H : Hp) (args : Args) (us : List Value) (vs : List V) (Q : VK) (E : XK), Room k A → A.guards = some [] → Env0 P w K mg base A outer s H →
    BindsTo s fd args (ps.zip us) → Vals vs us → sp vs H Q E → codeAny (model P w) A (.call (.ref f) args) (CR (L2.CX P w) outer P w H s Q E) s
section
variable {P : Program} {w : World} {K : PySem.W.Frag} {mg : Str → Option Value} {base : Heap} {k : Nat} {f : Addr} {fd : FuncData} {ps N : List Str} {sp : Sp}
theorem FnG.up {j : Nat} (F : FnG P w K mg base j f fd ps sp) (h : j ≤ k) : FnG P w K mg base k f fd ps sp :=
  ⟨F.len, fun A outer s H args us vs Q E hr => F.go A outer s H args us vs Q E (hr.mono h)⟩
/-- a def of the text, by its body -/
theorem fnG_of {x qual : Str} {st : Stmt} (Fn : Fun K x qual st f fd) (S : FnScope N ps (defScope st)) (len : ∀ vs H Q E, sp vs H Q E → vs.length = ps.length)
    (body : ∀ (cdv : Value) (A : Around) (outer : List Env) (s : Shared) (H : Hp) (vs : List V) (Q : VK) (E : XK), Room k (A.deeper (envOfC qual (defScope st) s.heap.objs.size f cdv)) → A.guards = some [] → sp vs H Q E →
      ∃ t, PSs (cxOf (L2.CX P w) P w K mg base N qual (defScope st) f cdv A outer s H E) (defBody st) t ∧ t { nx := fun _ H1 => Q .non H1, rt := Q } (L2.start N vs) H) : FnG P w K mg base (k + 1) f fd ps sp := by
  obtain ⟨oc, od, kV, doc, pm, an, cdv, ct, osl, rfl, lk, hcd⟩ := Fn.ex
  refine ⟨len, ?_⟩
  intro A outer s H args us vs Q E room quiet e0 binds rel hsp
  have kin : K.In s.heap := e0.mod.kin.keeps fun b o z => (e0.bs b o z).1
  have cells : ∀ y ∈ ps.zip us, (defScope st).names.lookup y.1 = some .local ∨ ((defScope st).names.lookup y.1 = some .cell ∧ ((cellsFrom (s.heap.objs.size + 1) (defScope st).names []).lookup y.1).isSome = true) := by
    rintro ⟨nm, u⟩ hy
    refine (S.par nm (List.of_mem_zip hy).1).imp id fun z => ⟨z, PySem.W.cellsFrom_some _ _ _ (.inl z)⟩
  refine codeAny_call_function room.depth (kin _ _ lk) rfl S.co S.gen rfl (PySem.W.codeRec_of kin hcd) (binds _ _ _ _ ?_)
  refine wpAny_newFunctionEnv_cells S.kind cells fun env he s1 x => ?_
  subst he
  refine ⟨(e0.mod.nolimit.keeps fun b o z => (e0.bs b o z).1).keeps x.toInCall.keep, codeAny_func ?_⟩
  obtain ⟨t, ht, hq⟩ := body cdv A outer s H vs Q E (room.deeper _) quiet hsp
  have I : Inv (cxOf (L2.CX P w) P w K mg base N qual (defScope st) f cdv A outer s H E) [] (L2.start N vs) H s1 := inv_start S room.hd e0 (len _ _ _ _ hsp) rel x
  refine wpAny_mono (ht.run [] s1 (L2.start N vs) H _ I hq) ?_ fun _ _ z => z
  intro fl s' hs
  cases fl with
  | next => obtain ⟨σ1, H1, J, q⟩ := hs; exact (⟨V.non, H1, J.os, J.bare, J.base, J.hok, rfl, q⟩ : CE outer P w H s Q Value.none s')
  | ret u => obtain ⟨v, σ1, H1, J, rv, q⟩ := hs; exact (⟨v, H1, J.os, J.bare, J.base, J.hok, rv, q⟩ : CE outer P w H s Q u s')
  | brk => obtain ⟨_, _, _, q⟩ := hs; exact q.elim
  | cont => obtain ⟨_, _, _, q⟩ := hs; exact q.elim
/-- A DEF that reckons F -/
theorem fnG_pure {x qual : Str} {st : Stmt} {F : FD} {B : SF} (Fn : Fun K x qual st f fd) (S : FnScope N ps (defScope st)) (hF : ∀ ds, ds.length = ps.length → F ds = runB N.length B ds)
    (body : ∀ (cdv : Value) (A : Around) (outer : List Env) (s : Shared) (H : Hp) (E : XK), Room k (A.deeper (envOfC qual (defScope st) s.heap.objs.size f cdv)) → A.guards = some [] →
      EB (cxOf (L2.CX P w) P w K mg base N qual (defScope st) f cdv A outer s H E) (fun cls d _ H => E cls d H) (defBody st) B) : FnG P w K mg base (k + 1) f fd ps (spF K w mg ps.length F) := by
  refine fnG_of Fn S (fun vs H Q E h => ?_) fun cdv A outer s H vs Q E hr hg h => ⟨_, body cdv A outer s H E hr hg, ?_⟩
  · obtain ⟨W, ds, _, r, hl, _⟩ := h
    exact r.len.trans hl
  · obtain ⟨W, ds, sm, r, hl, h⟩ := h
    refine ⟨fun _ => 0, W, _, _, SR.start sm r, ?_⟩
    rw [hF ds hl] at h
    unfold runB at h
    have ex : ∀ {W' H' : Hp} {A' : List (List Addr)}, Same W' H' → Fr W H (ownd (List.replicate (L2.start N vs).length [])) W' H' (ownd A') → Ex W H W' H' := fun s F => F.ex own_none s
    cases eb : B (ds.map .fz ++ List.replicate (N.length - ds.length) .no) with
    | bad => rw [eb] at h; exact h.elim
    | exc c d e =>
      rw [eb] at h
      exact fun C W' H' A' σ' dx v g S' F' x r' => h C W' H' dx v g (ex S'.sub F') x r'
    | ok q =>
      obtain ⟨fl, env'⟩ := q
      rw [eb] at h
      cases fl with
      | nx => exact fun W' H' A' σ' S' F' => h W' H' _ (ex S'.sub F') rfl
      | rt d => exact fun W' H' A' σ' S' F' v rv => h W' H' v (ex S'.sub F') rv
      | bk => exact h.elim
      | ct => exact h.elim
end
section
variable {X : Cx} {Wx : WX} {k n : Nat} {f : Addr} {fd : FuncData} {ps : List Str} {sp : Sp} {F : FD} {x : Str} {p pos : Pos} {e : Expr} {es : List Expr} {g : AF} {t : TA}
theorem pe_callG (G : FnG X.prog X.w X.K X.mg X.base k f fd ps sp) (hr : Room k X.A) (hq : X.A.guards = some []) (hg : Gl X x) (hm : X.mg x = some (.ref f)) (hk : PySem.W.keepIn X.K (.ref f) = true) (hb : Binds X.K fd ps [])
    {E : L2.St → XK} (hx : ∀ σ, PassesAt (L2.CX X.prog X.w) X σ (E σ)) (ha : PA X (e :: es) t) (hdb : (x == ("__debug__" : Str)) = false := by decide) (he : starEach (e :: es) X.env = (false, eval e X.env) :: starEach es X.env := by rfl) (hpl : (backTo pos (starEach es X.env)).any (·.1) = false := by rfl) :
    PE X (.Call (.Name x p) (e :: es) [] pos) (tCallSD sp [] E t) := by
  refine ⟨fun pins s σ H Q I h => ?_⟩
  refine wpAny_Call_Name_kw (ld_glob I hg hm ?_ hdb)
  refine PySem.W.callWith_K (h₀ := X.base) I.ok.mod.kin hk (thn (ha.run pos pins s σ H _ I h) fun us s1 ⟨vs, H1, I1, r, q⟩ => ⟨I1.kIn, ?_⟩) he hpl
  have q' : sp vs H1 Q (E σ) := by rw [← List.append_nil vs]; exact q
  have hl : us.length = ps.length := r.length.symm.trans (G.len _ _ _ _ q')
  have hb' := hb s1 us I1.kIn (by rw [List.append_nil]; exact hl)
  rw [List.append_nil] at hb'
  refine wpAny_call (codeAny_mono (G.go X.A X.stack s1 H1 ⟨us, []⟩ us vs Q (E σ) hr hq I1.env0 hb' r q') ?_)
  intro z s2 hz
  cases z with
  | error y => exact hx σ pins H1 s1 y s2 I1 hz
  | ok fl =>
    cases fl with
    | ret u => exact I1.after hz
    | next => exact False.elim hz
    | brk => exact False.elim hz
    | cont => exact False.elim hz
theorem ex_callG (G : FnG X.prog X.w X.K X.mg X.base k f fd ps (spF X.K X.w X.mg n F)) (hr : Room k X.A) (hq : X.A.guards = some []) (hg : Gl X x) (hm : X.mg x = some (.ref f)) (hk : PySem.W.keepIn X.K (.ref f) = true) (hb : Binds X.K fd ps [])
    (tk : Takes X Wx) (ha : EA X Wx (e :: es) g) (hdb : (x == ("__debug__" : Str)) = false := by decide) (he : starEach (e :: es) X.env = (false, eval e X.env) :: starEach es X.env := by rfl) (hpl : (backTo pos (starEach es X.env)).any (·.1) = false := by rfl) :
    EX X Wx (.Call (.Name x p) (e :: es) [] pos) (xCall n F g) := by
  refine PE.wk (pe_callG (E := fun σ cls d H => Wx cls d σ H) G hr hq hg hm hk hb (fun σ => passAt tk σ) ha hdb he hpl) ?_
  rintro σ H Q ⟨ρ, W, env, A, S, h⟩
  refine tG_then S h fun ds W1 H1 env1 A1 vs S1 F1 r1 h1 => ?_
  by_cases hn : ds.length = n
  · simp only [if_pos hn] at h1
    rw [List.append_nil]
    refine ⟨W1, ds, S1.sub, r1, hn, ?_⟩
    cases eF : F ds with
    | bad => rw [eF] at h1; exact h1.elim
    | ok d =>
      rw [eF] at h1
      exact fun W' H' v ex r => h1 W' H' A1 v (S1.ex ex) (ex.fr _) r
    | exc c d e' =>
      rw [eF] at h1
      exact fun C W' H' dx v g ex hx r => h1 C W' H' A1 dx v g (S1.ex ex) (ex.fr _) hx r
  · simp only [if_neg hn] at h1
    exact h1.elim
end
end DP
set_option Elab.async false
set_option linter.all false
set_option maxRecDepth 100000
/-! DP, part 14: the script; one's own lists, changed. -/
namespace DP
open PySem PySem.Spec PyProof.Rows L2

/-! ### the script -/
def xLenS (i : Nat) : XF := fun env => match env[i]? with
  | some (.sc ns) => .ok (.int ns.length, env)
  | _ => .bad
def xAtS (i : Nat) (f : XF) : XF := fun env => match env[i]? with
  | some (.sc ns) => (f env).bind fun r => match r.1 with
    | .int k => liftO ((atI ns k).map .int) r.2
    | _ => .bad
  | _ => .bad
theorem atI_map {α β : Type} (f : α → β) (xs : List α) (k : Int) : atI (xs.map f) k = (atI xs k).map f := by
  unfold atI
  rw [List.length_map]
  cases ixN xs.length k with
  | none => rfl
  | some j => simp
section
variable {X : Cx} {Wx : WX} {i : Nat} {x : Str} {p pos p2 : Pos} {e : Expr} {es : List Expr} {f : XF}
theorem ex_lenS (h : PE X (.Name x p) (tVar i)) (hg : Gl X "len") (hm : X.mg "len" = none) : EX X Wx (.Call (.Name "len" p2) [.Name x p] [] pos) (xLenS i) := by
  refine PE.wk (pe_callB call_len_seq hg hm PySem.boot_len (pa_cons h pa_nil)) ?_
  rintro σ H Q ⟨ρ, W, env, A, S, h⟩
  unfold xLenS at h
  cases e : env[i]? with
  | none => rw [e] at h; exact h.elim
  | some sl =>
    rw [e] at h
    obtain ⟨v, l, h1, h2, h3⟩ := S.at e
    cases sl with
    | sc ns =>
      obtain ⟨_, a, rfl, q⟩ := h3
      refine ⟨.ref a, h1, a, _, rfl, .inl (Same.sql S.sub q), ?_⟩
      rw [List.length_map]
      exact h W H A _ S (Fr.refl _ _ _) rfl
    | _ => exact h.elim
theorem ex_atS (h : PE X (.Name x p) (tVar i)) (hf : EX X Wx e f) (hs : PlainIx e) : EX X Wx (.Subscript (.Name x p) e pos) (xAtS i f) := by
  refine PE.wk (pe_ix ix_list h hf hs) ?_
  rintro σ H Q ⟨ρ, W, env, A, S, h⟩
  unfold xAtS at h
  cases e : env[i]? with
  | none => rw [e] at h; exact h.elim
  | some sl =>
    rw [e] at h
    obtain ⟨v, l, h1, h2, h3⟩ := S.at e
    cases sl with
    | sc ns =>
      obtain ⟨_, a, rfl, q⟩ := h3
      refine ⟨.ref a, h1, tG_then S h fun d W1 H1 env1 A1 u S1 F1 r1 h4 => ?_⟩
      cases d with
      | int k =>
        simp only [Rep] at r1
        subst r1
        simp only at h4
        cases ek : atI ns k with
        | none => rw [ek] at h4; exact h4.elim
        | some n =>
          rw [ek] at h4
          refine ⟨a, _, k, .int n, rfl, rfl, Same.sql S1.sub (Same.sql F1.ext q), by rw [atI_map, ek]; rfl, h4 W1 H1 A1 _ S1 (Fr.refl _ _ _) rfl⟩
      | _ => exact h4.elim
    | _ => exact h.elim
end

/-! ### one's own containers, changed -/
theorem SR.mut {K : PySem.W.Frag} {w : World} {ρ : Nat → Addr} {W H : Hp} {env : Ev} {σ : L2.St} {A : List (List Addr)} (S : SR K w ρ W H env σ A) {i : Nat} {t : Option Nat} {c c' : D} {p : Addr} {o : HO} (hi : env[i]? = some (.ow t c)) (hp : σ[i]? = some (some (.ref p)))
    (ho : Own K w W (upd H p o) c' p) : SR K w ρ W (upd H p o) (env.set i (.ow t c')) σ A ∧ Fr W H (ownd A) W (upd H p o) (ownd A) := by
  obtain ⟨v, l, h1, h2, h3⟩ := S.at hi
  obtain ⟨p', rfl, e3, q1, q2, q3⟩ := h3
  rw [hp] at h1
  have ep : p' = p := by cases h1; cases e3; rfl
  subst ep
  have sub : Same W (upd H p' o) := fun b u q => by rw [upd_ne (ne_of_none q q1)]; exact S.sub b u q
  refine ⟨⟨sub, by simp [S.le], S.la, fun j s v l j1 j2 j3 => ?_, S.inj⟩, Same.refl _, fun b u hb hn => ?_, fun b h1 h2 => absurd h2 h1, fun b hb => .inl hb⟩
  · rcases at_set j1 with ⟨e1, e2⟩ | ⟨e1, e2⟩
    · subst e1 e2
      rw [hp] at j2
      cases j2
      rw [h2] at j3
      cases j3
      exact ⟨p', rfl, rfl, q1, ho, q3⟩
    · refine (S.slot j s v l e2 j2 j3).keep (Same.refl _) fun b hb => ?_
      have hbp : b ≠ p' := fun z => e1 (S.inj j i l [p'] b j3 h2 hb (by simp [z]))
      exact ⟨upd_ne hbp, (S.own ⟨j, l, j3, hb⟩).1⟩
  · have hbp : b ≠ p' := fun z => hn ⟨i, [p'], h2, by simp [z]⟩
    rw [upd_ne hbp]
    exact hb
def isLst : D → Bool
  | .list _ => true
  | _ => false
/-- x.m(..), x one's own list: op gives what it returns, and the list behind it -/
def xMutL (i : Nat) (op : List D → List D → Option (D × List D)) (g : AF) : XF := fun env => match env[i]? with
  | some (.ow _ (.list _)) => (g env).bind fun r => match r.2[i]? with
    | some (.ow t (.list ds)) => (match op ds r.1 with
      | some (z, ds') => .ok (z, r.2.set i (.ow t (.list ds')))
      | none => .bad)
    | _ => .bad
  | _ => .bad
/-- what a list's method must keep for xMutL -/
def MutR (X : Cx) (r : V → List V → Hp → VK → Prop) (op : List D → List D → Option (D × List D)) : Prop :=
  ∀ (W H : Hp) (p : Addr) (ds as : List D) (vs us : List V) (z : D) (ds' : List D) (Q : VK), Same W H → W p = none → H p = some (.lst vs) → RepL X.K X.w W ds vs → RepL X.K X.w W as us → op ds as = some (z, ds') →
    (∀ vs' v, RepL X.K X.w W ds' vs' → Rep X.K X.w W z v → Q v (upd H p (.lst vs'))) → r (.ref p) us H Q
def opApp (ds as : List D) : Option (D × List D) := match as with
  | [d] => if ds.length < sizeLine then some (.none, ds ++ [d]) else none
  | _ => none
def opExt (ds as : List D) : Option (D × List D) := match as with
  | [.list es] => if ds.length + es.length ≤ sizeLine then some (.none, ds ++ es) else none
  | _ => none
section
variable {X : Cx} {Wx : WX}
theorem mut_app : MutR X rAppend opApp := by
  intro W H p ds as vs us z ds' Q s n h r ra e q
  unfold opApp at e
  split at e
  · rename_i d
    split at e
    · rename_i c
      cases e
      simp only [RepL] at ra
      obtain ⟨v, _, rfl, r1, rfl⟩ := ra
      exact ⟨p, vs, v, rfl, rfl, h, by rw [r.len]; exact c, q _ _ (r.snoc r1) rfl⟩
    · cases e
  · cases e
theorem mut_ext : MutR X rExtend opExt := by
  intro W H p ds as vs us z ds' Q s n h r ra e q
  unfold opExt at e
  split at e
  · rename_i es
    split at e
    · rename_i c
      cases e
      simp only [RepL, Rep] at ra
      obtain ⟨v, _, rfl, ⟨b, zs, rfl, hb, rb⟩, rfl⟩ := ra
      exact ⟨p, b, vs, zs, rfl, rfl, h, s _ _ hb, by rw [r.len, rb.len]; exact c, q _ _ (r.append rb) rfl⟩
    · cases e
  · cases e
theorem ex_mutL {i : Nat} {x name : Str} {id : String} {p apos cpos : Pos} {e : Expr} {es : List Expr} {g : AF} {r : V → List V → Hp → VK → Prop} {op : List D → List D → Option (D × List D)} (slot : Slot "list" name id) (hty : typeOf (.builtin id) = pure (.type "method_descriptor")) (hm : MtR X id r) (mu : MutR X r op)
    (h : PE X (.Name x p) (tVar i)) (ha : EA X Wx (e :: es) g)
    (hbase : attributeBase (.Name x p) name X.env (eval (.Name x p) X.env) = eval (.Name x p) X.env := by rfl)
    (hfew : ((backTo cpos (starEach (e :: es) X.env)).all (fun x => !x.1) && (backToKw cpos (keywordEach [] X.env)).all (fun x => x.1.isSome)
      && decide ((e :: es).length + ([] : List Keyword).length + (if ([] : List Keyword).isEmpty then 0 else 1) < 30)) = true := by rfl)
    (hline : (apos.endLine == cpos.line) = true := by rfl) (hs : starEach (e :: es) X.env = (false, eval e X.env) :: starEach es X.env := by rfl) (hplain : (backTo cpos (starEach es X.env)).any (·.1) = false := by rfl) :
    EX X Wx (.Call (.Attribute (.Name x p) name apos) (e :: es) [] cpos) (xMutL i op g) := by
  refine PE.wk (pe_bm PySem.F.plainAttrs_list slot hty hm h ha hbase hfew hline hs hplain) ?_
  rintro σ H Q ⟨ρ, W, env, A, S, h⟩
  unfold xMutL at h
  split at h
  · rename_i t0 ds0 e0
    obtain ⟨v, l, h1, h2, h3⟩ := S.at e0
    obtain ⟨p, rfl, rfl, q3, ⟨vs0, q4, _⟩, _⟩ := h3
    refine ⟨.ref p, h1, .inl ⟨rfl, vs0, .of q4⟩, tG_then S h fun as W1 H1 env1 A1 us S1 F1 ra h4 => ?_⟩
    simp only at h4
    split at h4
    · rename_i t ds e1
      split at h4
      · rename_i z ds' eo
        obtain ⟨v, l, g1, g2, g3⟩ := S1.at e1
        obtain ⟨p', rfl, e3, g3, ⟨vs, g4, rv⟩, g5⟩ := g3
        rw [h1] at g1
        have ep : p' = p := by cases g1; cases e3; rfl
        subst ep
        refine mu W1 H1 p' ds as vs us z ds' Q S1.sub g3 g4 rv ra eo fun vs' v rv' rz => ?_
        obtain ⟨S2, F2⟩ := S1.mut (c' := .list ds') (o := .lst vs') e1 h1 ⟨vs', upd_same, rv'⟩
        exact h4 W1 _ A1 v S2 F2 rz
      · exact h4.elim
    · exact h4.elim
  · exact h.elim
end
end DP
set_option Elab.async false
set_option linter.all false
set_option maxRecDepth 100000
/-! DP, part 15: chains, globals, len, subscripts, a, b = x, y; repr. -/
namespace DP
open PySem PySem.Spec PyProof.Rows L2

/-! ### a < b < c -/
section
variable {X : Cx} {Wx : WX} {a b c : Expr} {f g k : XF} {pos : Pos} {op op' : CmpOp} {o o' : D → D → Option D}
/-- a comparison that gives a bool -/
def BoolOp2 (o : D → D → Option D) : Prop := ∀ x y z, o x y = some z → ∃ b, z = .bool b
theorem ex_chain (ho : OpR X (compareOp op) (tV2 X.K X.w o)) (ho' : OpR X (compareOp op') (tV2 X.K X.w o')) (ha : EX X Wx a f) (hb : EX X Wx b g) (hc : EX X Wx c k)
    (hm : lastMarks [op, op'] [b, c] = false := by with_unfolding_all rfl) : EX X Wx (.Compare a [op, op'] [b, c] pos) (xChain o o' f g k) := by
  refine PE.wk (pe_chain ho ho' ha hb hc hm) ?_
  rintro σ H Q ⟨ρ, W, env, A, S, h⟩
  unfold xChain at h
  refine tG_then S h fun d W1 H1 env1 A1 v S1 F1 r1 h1 => ?_
  refine tG_then S1 h1 fun d2 W2 H2 env2 A2 u S2 F2 r2 h2 => ?_
  simp only at h2
  refine ⟨W2, d, d2, S2.sub, Rep.mono F2.ext d v r1, r2, ?_⟩
  cases eo : o d d2 with
  | none => rw [eo] at h2; exact h2.elim
  | some z =>
    rw [eo] at h2
    intro W3 H3 v3 e3 r3
    simp only [liftO_some, Out.bind_ok] at h2
    unfold asB at h2
    cases z with
    | bool q =>
      simp only [Rep] at r3
      subst r3
      refine ⟨q, rfl, ?_⟩
      simp only [Out.bind_ok] at h2
      have S3 := S2.ex e3
      cases q with
      | false =>
        simp only [Bool.false_eq_true, if_false] at h2 ⊢
        exact h2 W3 H3 A2 _ S3 (e3.fr _) rfl
      | true =>
        simp only [if_true] at h2 ⊢
        have h3 := onG_fr h2 (e3.fr (ownd A2))
        refine tG_then S3 h3 fun d4 W4 H4 env4 A4 v4 S4 F4 r4 h4 => ?_
        have h5 : onX X Wx ρ σ W4 H4 A4 (liftO (o' d2 d4) env4) Q := by
          simp only at h4
          cases eo' : o' d2 d4 with
          | none => rw [eo'] at h4; exact h4.elim
          | some z => rw [eo'] at h4; exact h4
        exact ⟨W4, d2, d4, S4.sub, Rep.mono (e3.ext.trans F4.ext) d2 u r2, r4, onV_of S4 h5⟩
    | _ => exact h2.elim
/-- a name of the module: a constant -/
theorem ex_globI {x : Str} {i : Int} {t : Tok} (hg : Gl X x) (hm : X.mg x = some (.int i t)) (hd : (x == ("__debug__" : Str)) = false := by decide) : EX X Wx (.Name x pos) (xConst (.int i)) :=
  ex_const (pe_glob (v := .int i) hg hm ⟨t, rfl⟩ hd) fun W => by simp only [Rep]
theorem ex_globS {x y : Str} {t : Tok} (hg : Gl X x) (hm : X.mg x = some (.str y t)) (hd : (x == ("__debug__" : Str)) = false := by decide) : EX X Wx (.Name x pos) (xConst (.str y)) :=
  ex_const (pe_glob (v := .str y) hg hm ⟨t, rfl⟩ hd) fun W => by simp only [Rep]
end

/-! ### len -/
def lenD (ds : List D) : Option D := match ds with
  | [.list xs] => some (.int xs.length)
  | [.tuple xs] => some (.int xs.length)
  | [.str x] => if x.length ≤ sizeLine then some (.int x.length) else none
  | [.dict xs] => some (.int xs.length)
  | _ => none
theorem CallR.or {X : Cx} {f : Value} {r r' : List V → Hp → VK → Prop} (h : CallR X f r) (h' : CallR X f r') : CallR X f (fun x H Q => r x H Q ∨ r' x H Q) := fun pins s σ H x v Q I r1 q => q.elim (h pins s σ H x v Q I r1) (h' pins s σ H x v Q I r1)
theorem RepKV.len {K : PySem.W.Frag} {w : World} {W : Hp} : ∀ {kvs : List (D × D)} {es : List DictEntry}, RepKV K w W kvs es → es.length = kvs.length
  | [], _, h => by simp only [RepKV] at h; subst h; rfl
  | (k, d) :: r, _, h => by
    simp only [RepKV] at h
    obtain ⟨e, q, rfl, _, _, _, h2⟩ := h
    simp [RepKV.len h2]
section
variable {X : Cx} {Wx : WX}
theorem dlen {w : World} {prog : Program} {A : Around} {E : Value → Shared → Prop} {s : Shared} {a : Addr} {es : Array DictEntry} {ep : Nat} {Q : Value → Shared → Prop} (hs : (a == sysModules) = false) (ho : s.heap.get? a = some (dobj es ep)) (hz : es.size ≤ sizeLine)
    (h : ∀ t tk, Q (.int es.size t) { s with toks := tk }) : wpAny (model prog w) A (call (.builtin "len") [.ref a]) Q E s := by
  have T := dobj_type ho
  have hz' : (es.size : Int) < 2 ^ 63 := by rw [sizeLine_eq] at hz; omega
  refine Calls.call_function_entry kind_len plain_len entry_len (args_len1 _) ?_
  unfold Builtin.«len»
  refine wpAny_bind (m := oneArg "len" _) (wpAny_pure ?_)
  refine wpAny_bind (m := callSpecial? (.ref a) (Str.ofString "__len__")) (wpAny_callSpecial?_slot (name := Str.ofString "__len__") T F.slot_dict_len (call_len_raw hs ⟨_, ho, ⟨rfl, rfl, rfl⟩, rfl⟩ ?_))
  refine wpAny_bind (wpAny_holding (wpAny_pure ?_))
  refine wpAny_bind (wpAny_letGo ?_)
  show wpAny _ _ (if ((es.size : Nat) : Int) < 0 then _ else _) _ _ _
  rw [if_neg (by omega)]
  show wpAny _ _ (if ((es.size : Nat) : Int) ≥ 2 ^ 63 then _ else _) _ _ _
  rw [if_neg (by omega)]
  exact wpAny_bind (wpAny_mkInt (wpAny_pure ⟨_, rfl, h _ _⟩))
theorem cr_lenDict : CallR X (.builtin "len") (fun xs H Q => ∃ p es ep, xs = [.ref p] ∧ H p = some (dicO p es ep) ∧ Q (.int es.size) H) := by
  intro pins s σ H xs us Q I r h
  obtain ⟨p, es, ep, rfl, hq, q⟩ := h
  obtain ⟨u, rfl, rx⟩ := vals1 r
  cases rx
  obtain ⟨⟨h1, h2, h3⟩, _⟩ := I.hok p _ hq
  exact dlen h1 h3 h2 fun t tk => ⟨.int es.size, H, I.tok _, ⟨t, rfl⟩, q⟩
theorem cr_lenD : CallR X (.builtin "len") (tVn X.K X.w lenD) := by
  refine CallR.wk (CallR.or call_len_seq (CallR.or call_len_str cr_lenDict)) ?_
  rintro xs H Q ⟨W, ds, s, r, h⟩
  unfold lenD at h
  split at h
  · simp only [RepL, Rep] at r
    obtain ⟨v, _, rfl, ⟨a, vs, rfl, q, l⟩, rfl⟩ := r
    exact .inl ⟨a, vs, rfl, .inl (.of (s _ _ q)), h.flat s (by simp only [Rep]; rw [l.len])⟩
  · simp only [RepL, Rep] at r
    obtain ⟨v, _, rfl, ⟨a, vs, rfl, q, l⟩, rfl⟩ := r
    exact .inl ⟨a, vs, rfl, .inr (Same.sqt s q), h.flat s (by simp only [Rep]; rw [l.len])⟩
  · simp only [RepL, Rep] at r
    obtain ⟨v, _, rfl, rfl, rfl⟩ := r
    split at h
    · rename_i c
      exact .inr (.inl ⟨_, rfl, c, h.flat s rfl⟩)
    · exact h.elim
  · simp only [RepL, Rep] at r
    obtain ⟨v, _, rfl, ⟨a, es, ep, rfl, q, l, _⟩, rfl⟩ := r
    refine .inr (.inr ⟨a, es, ep, rfl, s _ _ q, h.flat s ?_⟩)
    simp only [Rep]
    rw [← l.len, Array.length_toList]
  · exact h.elim
end

/-! ### keys -/
mutual
theorem nested_of : ∀ {h : Heap} {u : Value} {d : D} {as : List Addr} {k : NestedKey}, Reads h u d as → keyD d = some k → NestedIs h k u
  | _, _, _, _, _, .none, e => by simp only [keyD, Option.some.injEq] at e; subst e; exact .none
  | _, _, _, _, _, .bool b, e => by simp only [keyD, Option.some.injEq] at e; subst e; exact .bool rfl
  | _, _, _, _, _, .int i t, e => by simp only [keyD, Option.some.injEq] at e; subst e; exact .int i t
  | _, _, _, _, _, .str x t, e => by simp only [keyD, Option.some.injEq] at e; subst e; exact .text x t
  | _, _, _, _, _, .tuple h1 h2 h3 h4, e => by
    simp only [keyD] at e
    obtain ⟨ks, e1, e2⟩ := Option.map_eq_some_iff.mp e
    subst e2
    exact .tup h1 h2 h3 (nested_all h4 e1)
  | _, _, _, _, _, .list _ _ _ _, e => by simp [keyD] at e
  | _, _, _, _, _, .dict _ _ _ _ _, e => by simp [keyD] at e
theorem nested_all : ∀ {h : Heap} {us : List Value} {ds : List D} {as : List Addr} {ks : List NestedKey}, ReadsAll h us ds as → keysD ds = some ks → NestedAll h ks us
  | _, _, _, _, _, .nil, e => by simp only [keysD, Option.some.injEq] at e; subst e; exact .nil
  | _, _, _, _, _, .cons r t, e => by
    simp only [keysD] at e
    obtain ⟨k, e1, e2⟩ := Option.bind_eq_some_iff.mp e
    obtain ⟨ks, e3, e4⟩ := Option.map_eq_some_iff.mp e2
    subst e4
    exact .cons (nested_of r e1) (nested_all t e3)
end
def keyOk (k : D) : Bool := match keyD k with
  | some kk => decide (kk.depth ≤ 8)
  | none => false
def kIs (k : D) (p : D × D) : Bool := decide (keyD p.1 = keyD k)
def dAt (kvs : List (D × D)) (k : D) : Option D := (kvs.find? (kIs k)).map (·.2)
theorem keyOk_iff {k : D} (h : keyOk k = true) : ∃ kk, keyD k = some kk ∧ kk.depth ≤ 8 := by
  unfold keyOk at h
  split at h
  · rename_i kk e
    exact ⟨kk, e, of_decide_eq_true h⟩
  · cases h
theorem find_nodup {α β : Type} [DecidableEq β] (f : α → β) : ∀ {l : List α} {j : Nat} {p : α}, (l.map f).Nodup → l[j]? = some p → l.find? (fun q => decide (f q = f p)) = some p
  | [], _, _, _, h => by simp at h
  | q :: l, 0, p, _, h => by
    cases h
    rw [List.find?_cons_of_pos (by simp)]
  | q :: l, j + 1, p, n, h => by
    rw [List.map_cons, List.nodup_cons] at n
    have h' : l[j]? = some p := by simpa using h
    rw [List.find?_cons_of_neg (by
      simp only [decide_eq_true_eq]
      exact fun z => n.1 (by rw [z]; exact List.mem_map.mpr ⟨p, List.mem_of_getElem? h', rfl⟩))]
    exact find_nodup f n.2 h'
section
variable {K : PySem.W.Frag} {w : World} {W : Hp}
theorem RepKV.at : ∀ {kvs : List (D × D)} {es : List DictEntry} {j : Nat} {e : DictEntry}, RepKV K w W kvs es → es[j]? = some e →
    ∃ k v, kvs[j]? = some (k, v) ∧ (∃ kk, keyD k = some kk ∧ kk.depth ≤ 8 ∧ e.hash = kk.hash w) ∧ (∃ x, RelV x e.key ∧ Rep K w W k x) ∧ ∃ y, RelV y e.val ∧ Rep K w W v y
  | [], _, _, _, h, e => by simp only [RepKV] at h; subst h; simp at e
  | (k, d) :: r, _, 0, _, h, e => by
    simp only [RepKV] at h
    obtain ⟨en, q, rfl, h1, h2, h3, _⟩ := h
    cases e
    exact ⟨k, d, rfl, h1, h2, h3⟩
  | (k, d) :: r, _, j + 1, _, h, e => by
    simp only [RepKV] at h
    obtain ⟨en, q, rfl, h1, h2, h3, h4⟩ := h
    obtain ⟨k', v', q1, q2⟩ := RepKV.at (j := j) h4 (by simpa using e)
    exact ⟨k', v', by simpa using q1, q2⟩
theorem RepKV.keys : ∀ {kvs : List (D × D)} {es : List DictEntry}, RepKV K w W kvs es → ∃ ks : List NestedKey, kvs.map (fun p => keyD p.1) = ks.map some
  | [], _, _ => ⟨[], rfl⟩
  | (k, d) :: r, _, h => by
    simp only [RepKV] at h
    obtain ⟨en, q, rfl, ⟨kk, h1, _⟩, h2, h3, h4⟩ := h
    obtain ⟨ks, e⟩ := RepKV.keys h4
    exact ⟨kk :: ks, by rw [List.map_cons, List.map_cons, e, h1]⟩
variable {X : Cx} {pins : List (Addr × Obj)} {σ : L2.St} {H : Hp} {s : Shared}
theorem Rep.key (I : Inv X pins σ H s) (sm : Same W H) {d : D} {v : V} {u : Value} {k : NestedKey} (r : Rep X.K X.w W d v) (ru : RelV v u) (e : keyD d = some k) : NestedIs s.heap k u := by
  obtain ⟨as, ra⟩ := Rep.reads I sm d v u r ru
  exact nested_of ra e
theorem RepKV.ents (I : Inv X pins σ H s) (sm : Same W H) {kvs : List (D × D)} {es : Array DictEntry} (r : RepKV X.K X.w W kvs es.toList) (nd : (kvs.map fun p => keyD p.1).Nodup) :
    ∃ ks : List NestedKey, kvs.map (fun p => keyD p.1) = ks.map some ∧ Ents X.w s.heap ks es := by
  obtain ⟨ks, e⟩ := r.keys
  refine ⟨ks, e, ?_, fun i en he => ?_, ?_⟩
  · have h1 := congrArg List.length e
    have h2 := r.len
    rw [Array.length_toList] at h2
    simp only [List.length_map] at h1
    omega
  · obtain ⟨k, v, q1, ⟨kk, q2, q3, q4⟩, ⟨x, q5, q6⟩, _⟩ := r.at (j := i) (e := en) (by rw [Array.getElem?_toList]; exact he)
    refine ⟨kk, ?_, Rep.key I sm q6 q5 q2, q3, q4⟩
    have := congrArg (fun l => l[i]?) e
    simp only [List.getElem?_map, q1, Option.map_some, q2] at this
    cases hk : ks[i]? with
    | none => rw [hk] at this; cases this
    | some z => rw [hk] at this; cases this; rfl
  · rw [e] at nd
    exact List.Pairwise.of_map some (fun a b h z => h (congrArg some z)) nd
/-- what the search found -/
theorem hit_none {kvs : List (D × D)} {ks : List NestedKey} {d : D} {k : NestedKey} (e : kvs.map (fun p => keyD p.1) = ks.map some) (hk : keyD d = some k) (h : Hit ks k none) : dAt kvs d = none ∧ kvs.any (kIs d) = false := by
  have : ∀ p ∈ kvs, ¬ kIs d p = true := fun p hp z => by
    have z' := of_decide_eq_true z
    have hm : keyD p.1 ∈ kvs.map (fun p => keyD p.1) := List.mem_map.mpr ⟨p, hp, rfl⟩
    rw [e, z', hk] at hm
    obtain ⟨k', h1, h2⟩ := List.mem_map.mp hm
    cases h2
    exact h h1
  refine ⟨?_, by rw [List.any_eq_false]; exact this⟩
  unfold dAt
  rw [List.find?_eq_none.mpr this]
  rfl
theorem hit_some {kvs : List (D × D)} {ks : List NestedKey} {d : D} {k : NestedKey} {j : Nat} (e : kvs.map (fun p => keyD p.1) = ks.map some) (nd : (kvs.map fun p => keyD p.1).Nodup) (hk : keyD d = some k) (h : Hit ks k (some j)) :
    ∃ p, kvs[j]? = some p ∧ keyD p.1 = keyD d ∧ dAt kvs d = some p.2 ∧ kvs.any (kIs d) = true := by
  have h1 : (kvs.map fun p => keyD p.1)[j]? = some (some k) := by rw [e, List.getElem?_map, show ks[j]? = some k from h]; rfl
  rw [List.getElem?_map] at h1
  obtain ⟨p, hp, hq⟩ := Option.map_eq_some_iff.mp h1
  have hq' : keyD p.1 = keyD d := hq.trans hk.symm
  refine ⟨p, hp, hq', ?_, ?_⟩
  · unfold dAt kIs
    have := find_nodup (fun p : D × D => keyD p.1) nd hp
    simp only [hq'] at this
    rw [this]
    rfl
  · exact List.any_eq_true.mpr ⟨p, List.mem_of_getElem? hp, decide_eq_true hq'⟩
end

/-! ### subscripts -/
def ixD (x k : D) : Option D := match x, k with
  | .list ds, .int i => atI ds i
  | .tuple ds, .int i => atI ds i
  | .str z, .int i => if z.length ≤ sizeLine then (atI z.cps.toList i).map fun c => .str ⟨#[c]⟩ else none
  | .dict kvs, k => if keyOk k = true then dAt kvs k else none
  | _, _ => none
theorem RepL.atI' {K : PySem.W.Frag} {w : World} {W : Hp} {ds : List D} {vs : List V} {i : Int} {d : D} (h : RepL K w W ds vs) (e : atI ds i = some d) : ∃ v, atI vs i = some v ∧ Rep K w W d v := by
  unfold atI at e ⊢
  rw [h.len]
  obtain ⟨j, e1, e2⟩ := Option.bind_eq_some_iff.mp e
  obtain ⟨v, h1, h2⟩ := h.at e2
  exact ⟨v, by rw [e1]; exact h1, h2⟩
section
variable {X : Cx} {Wx : WX} {W H : Hp}
def rIxDic (X : Cx) : R2 := fun x y H Q => ∃ W a es ep k kvs, x = .ref a ∧ Same W H ∧ Rep X.K X.w W k y ∧ keyOk k = true ∧ H a = some (dicO a es ep) ∧ RepKV X.K X.w W kvs es.toList ∧ (kvs.map fun p => keyD p.1).Nodup ∧
  ∃ d, dAt kvs k = some d ∧ ∀ v, Rep X.K X.w W d v → Q v H
theorem ix_dic (hu : X.A.units + 64 < cLine) : IxR X (rIxDic X) := by
  intro value slice pins s σ H x y v u Q I rx ry h hs
  obtain ⟨W, a, es, ep, k, kvs, rfl, sm, rk, ok, hH, kv, nd, d, hd, q⟩ := h
  cases rx
  obtain ⟨kk, k1, k2⟩ := keyOk_iff ok
  obtain ⟨⟨h1, h2, h3⟩, _⟩ := I.hok a _ hH
  obtain ⟨ks, ek, N⟩ := RepKV.ents I sm kv nd
  have hk := Rep.key I sm rk ry k1
  have hm : kk ∈ ks := by
    cases hit : decide (kk ∈ ks) with
    | true => exact of_decide_eq_true hit
    | false =>
      have := (hit_none ek k1 (show Hit ks kk none from of_decide_eq_false hit)).1
      rw [this] at hd; cases hd
  obtain ⟨j, hj⟩ := List.getElem?_of_mem hm
  obtain ⟨p, p1, p2, p3, _⟩ := hit_some ek nd k1 (show Hit ks kk (some j) from hj)
  obtain ⟨e, e1, _⟩ := N.get hj
  obtain ⟨k', v', q1, _, _, yv, q2, q3⟩ := kv.at (j := j) (e := e) (by rw [Array.getElem?_toList]; exact e1)
  rw [p1] at q1
  cases q1
  rw [hd] at p3
  cases p3
  exact subscriptTail_builtinR (x := e.val) (dobj_type h3) F.slot_dict_getitem.lookup (dgetItem (Q := fun r s' => r = e.val ∧ EP X pins σ Q r s') N (by omega) h3 hk k2 hj e1 fun t => ⟨rfl, yv, H, I.tok _, q2, q yv q3⟩) hs
theorem ix_dD (hu : X.A.units + 64 < cLine) : IxR X (tV2 X.K X.w ixD) := by
  intro value slice pins s σ H x y v u Q I rx ry h hs
  refine (ix_list.or (ix_tup.or (ix_str.or (ix_dic hu)))) value slice pins s σ H x y v u Q I rx ry ?_ hs
  obtain ⟨W, d, k, sm, r1, r2, h⟩ := h
  unfold ixD at h
  split at h
  · simp only [Rep] at r1 r2
    obtain ⟨a, vs, rfl, q, l⟩ := r1
    subst r2
    rename_i ds i
    cases e : atI ds i with
    | none => rw [e] at h; exact h.elim
    | some d =>
      rw [e] at h
      obtain ⟨z, e1, r⟩ := l.atI' e
      exact .inl ⟨a, vs, i, z, rfl, rfl, .of (sm _ _ q), e1, h.flat sm r⟩
  · simp only [Rep] at r1 r2
    obtain ⟨a, vs, rfl, q, l⟩ := r1
    subst r2
    rename_i ds i
    cases e : atI ds i with
    | none => rw [e] at h; exact h.elim
    | some d =>
      rw [e] at h
      obtain ⟨z, e1, r⟩ := l.atI' e
      exact .inr (.inl ⟨a, vs, i, z, rfl, rfl, Same.sqt sm q, e1, h.flat sm r⟩)
  · simp only [Rep] at r1 r2
    subst r1 r2
    rename_i z i
    split at h
    · rename_i c
      cases e : atI z.cps.toList i with
      | none => rw [e] at h; exact h.elim
      | some d =>
        rw [e] at h
        exact .inr (.inr (.inl ⟨z, i, d, rfl, rfl, c, e, h.flat sm rfl⟩))
    · exact h.elim
  · rename_i kvs
    simp only [Rep] at r1
    obtain ⟨a, es, ep, rfl, q, l, nd⟩ := r1
    split at h
    · rename_i c
      cases e : dAt kvs k with
      | none => rw [e] at h; exact h.elim
      | some d =>
        rw [e] at h
        exact .inr (.inr (.inr ⟨W, a, es, ep, _, kvs, rfl, sm, r2, c, sm _ _ q, l, nd, d, e, fun v r => h.flat sm r⟩))
    · exact h.elim
  · exact h.elim
theorem ex_ix {a b : Expr} {f g : XF} {pos : Pos} (hu : X.A.units + 64 < cLine) (ha : EX X Wx a f) (hb : EX X Wx b g) (hs : PlainIx b) : EX X Wx (.Subscript a b pos) (x2 ixD f g) :=
  PE.wk (pe_ix (ix_dD hu) ha hb hs) fun σ H Q h => x2_read (fun _ _ _ _ q => q) h

/-! ### repr -/
def reprD (ds : List D) : Option D := match ds with
  | [d] => if d.showable = true ∧ d.hasDict = false ∧ d.depth ≤ 60 ∧ d.shown.length ≤ sizeLine then some (.str d.shown) else none
  | _ => none
theorem cr_reprD (hq : X.A.guards = some []) (hu : X.A.units + 64 < cLine) : CallR X (.builtin "repr") (tVn X.K X.w reprD) := by
  intro pins s σ H xs us Q I r h
  obtain ⟨W, ds, sm, rl, h⟩ := h
  unfold reprD at h
  split at h
  · rename_i d
    simp only [RepL] at rl
    obtain ⟨v, _, rfl, rv, rfl⟩ := rl
    obtain ⟨u, rfl, rx⟩ := vals1 r
    split at h
    · rename_i c
      obtain ⟨c1, c2, c3, c4⟩ := c
      obtain ⟨as, ra⟩ := Rep.reads I sm d v u rv rx
      have fin : ∀ h' t tk, (∀ b o, s.heap.get? b = some o → h'.get? b = some o) → EP X pins σ Q (.str d.shown t) { s with heap := h', toks := tk } := fun h' t tk hk =>
        ⟨.str d.shown, H, I.kept (h' := h') (t' := tk) hk, ⟨t, rfl⟩, h.flat sm rfl⟩
      have fin0 : EP X pins σ Q (.str d.shown s.toks) { s with toks := s.toks + 1 } := fin s.heap s.toks (s.toks + 1) fun _ _ e => e
      have room : X.A.units + (d.depth + 1) < cLine := by omega
      cases ra with
      | none => rw [PyData.shown_none] at fin0; exact PySem.P.repr_of_none fin0
      | bool b => rw [PyData.shown_bool] at fin0; exact PySem.P.repr_of_bool (by cases b <;> exact fin0)
      | int i t =>
        rw [PyData.shown_int] at fin0
        exact PySem.P.repr_of_int (by simpa [PyData.showable] using c1) fin0
      | str x t =>
        rw [PyData.shown_str] at fin0 c4
        exact PySem.P.repr_of_str fin0 c4
      | list h1 h2 h3 h4 =>
        exact repr_of_reads' (.list h1 h2 h3 h4) c1 (PyData.noDict_hsm c2) hq room (fun _ _ e => e) (fun h' t tk hk => fin h' t tk hk) c4
      | tuple h1 h2 h3 h4 =>
        exact repr_of_reads' (.tuple h1 h2 h3 h4) c1 (PyData.noDict_hsm c2) hq room (fun _ _ e => e) (fun h' t tk hk => fin h' t tk hk) c4
      | dict h1 h2 h3 h4 h5 => simp [PyData.hasDict] at c2
    · exact h.elim
  · exact h.elim
end
end DP
set_option Elab.async false
set_option linter.all false
set_option maxRecDepth 100000
/-! DP, part 16: a, b = x, y; sorted(set(xs)) of tuples of ints. -/
namespace DP
open PySem PySem.Spec PyProof.Rows L2

/-! ### a, b = x, y -/
def sPar2 (i j : Nat) (g : AF) : SF := fun env => (g env).bind fun r => match r.1 with
  | [a, b] => .ok (.nx, (r.2.set i (.fz a)).set j (.fz b))
  | _ => .bad
section
variable {X : Cx} {Wx : WX}
theorem es_par2 {i j : Nat} {x y : Str} {a b : Expr} {g : AF} {px py pt pos : Pos} {kt k2 pt2} (hc : X.calm = true) (hN : X.N.Nodup) (hi : X.N[i]? = some x) (hj : X.N[j]? = some y) (hij : i ≠ j)
    (hx : X.env.scope.names.lookup x = some .local) (hy : X.env.scope.names.lookup y = some .local) (ha : EA X Wx [a, b] g)
    (hw : swappedStores [.Tuple [.Name x px, .Name y py] kt pt] (.Tuple [a, b] k2 pt2) X.env = pure (some [x, y]))
    (hs : swapsWithSole [.Tuple [.Name x px, .Name y py] kt pt] (.Tuple [a, b] k2 pt2) pos.line X.env = pure false := by rfl) :
    ES X Wx (.Assign [.Tuple [.Name x px, .Name y py] kt pt] (.Tuple [a, b] k2 pt2) pos) (sPar2 i j g) := by
  refine PS.wk (ps_par hc hN hi hj hij hx hy ha hw hs) ?_
  rintro D σ H ⟨ρ, W, env, A, S, h⟩
  refine tS_then S h fun ds W1 H1 env1 A1 vs S1 F1 r1 h1 => ?_
  simp only at h1
  split at h1
  · simp only [RepL] at r1
    obtain ⟨v, _, rfl, rv, u, _, rfl, ru, rfl⟩ := r1
    exact ⟨v, u, rfl, h1 W1 H1 _ _ ((S1.setFz i rv).setFz j ru) (fr_sub fun p q => ownd_nil (ownd_nil q))⟩
  · exact h1.elim
end

/-! ### sorted(set(..)) -/
abbrev tupI (ns : List Int) : D := .tuple (ns.map .int)
def isIT : D → Option (List Int)
  | .tuple ds => intsD ds
  | _ => none
def itsD : List D → Option (List (List Int))
  | [] => some []
  | d :: r => (isIT d).bind fun n => (itsD r).map fun l => n :: l
/-- strictly before, by the first difference -/
def lexI : List Int → List Int → Bool
  | [], [] => false
  | [], _ :: _ => true
  | _ :: _, [] => false
  | x :: xs, y :: ys => if x = y then lexI xs ys else decide (x < y)
theorem alike_ints : ∀ xs ys : List Int, PySem.W.alikeAll (xs.map PyData.int) (ys.map PyData.int) = true
  | [], _ => by simp [PySem.W.alikeAll]
  | _ :: _, [] => by simp [PySem.W.alikeAll]
  | x :: xs, y :: ys => by
    rw [List.map_cons, List.map_cons, PySem.W.alikeAll, alike_ints xs ys]
    simp [PySem.W.alike]
theorem toks_lexI : ∀ xs ys : List Int, PyProof.Rows.lexLt PyProof.Rows.itemOrd (PySem.W.keyToksAll (xs.map PyData.int)) (PySem.W.keyToksAll (ys.map PyData.int)) = lexI xs ys
  | [], [] => by decide
  | [], y :: ys => by
    rw [List.map_cons, PySem.W.toks_all_cons]
    simp only [List.map_nil, PySem.W.keyToksAll]
    rw [PySem.W.lex_atom (by simp)]
    rfl
  | x :: xs, [] => by
    rw [List.map_cons, PySem.W.toks_all_cons]
    simp only [List.map_nil, PySem.W.keyToksAll]
    rw [PySem.W.lex_atom (by simp)]
    rfl
  | x :: xs, y :: ys => by
    rw [List.map_cons, List.map_cons]
    have al : PySem.W.alike (PyData.int x) (PyData.int y) = true := by simp [PySem.W.alike]
    cases e : PyData.eqv (PyData.int x) (PyData.int y) with
    | true =>
      have hxy : x = y := by simpa [PyData.eqv] using e
      rw [PySem.W.dataLt_all_yes al e, toks_lexI xs ys, lexI, if_pos hxy]
    | false =>
      have hxy : ¬ x = y := by simpa [PyData.eqv] using e
      rw [PySem.W.dataLt_all_no al e, PySem.W.dataLt_int, lexI, if_neg hxy]
theorem dataLt_tupI (xs ys : List Int) : PySem.W.dataLt (tupI xs) (tupI ys) = lexI xs ys := by rw [PySem.W.dataLt_tuple, toks_lexI]
theorem lexI_irrefl : ∀ xs : List Int, lexI xs xs = false
  | [] => rfl
  | x :: xs => by rw [lexI, if_pos rfl, lexI_irrefl xs]
theorem lexI_trans : ∀ {xs ys zs : List Int}, lexI xs ys = true → lexI ys zs = true → lexI xs zs = true
  | [], [], _, h, _ => by simp [lexI] at h
  | [], _ :: _, [], _, h => by simp [lexI] at h
  | [], _ :: _, _ :: _, _, _ => rfl
  | _ :: _, [], _, h, _ => by simp [lexI] at h
  | _ :: _, _ :: _, [], _, h => by simp [lexI] at h
  | x :: xs, y :: ys, z :: zs, h, k => by
    rw [lexI] at h k ⊢
    by_cases h1 : x = y
    · rw [if_pos h1] at h
      by_cases h2 : y = z
      · rw [if_pos h2] at k
        rw [if_pos (h1.trans h2)]
        exact lexI_trans h k
      · rw [if_neg h2] at k
        rw [if_neg (by rw [h1]; exact h2), h1]
        exact k
    · rw [if_neg h1] at h
      have h' := of_decide_eq_true h
      by_cases h2 : y = z
      · rw [if_neg (by rw [← h2]; exact h1), ← h2]
        exact h
      · rw [if_neg h2] at k
        have k' := of_decide_eq_true k
        rw [if_neg (by omega)]
        exact decide_eq_true (by omega)
theorem lexI_tri : ∀ {xs ys : List Int}, lexI xs ys = false → lexI ys xs = false → xs = ys
  | [], [], _, _ => rfl
  | [], _ :: _, h, _ => by simp [lexI] at h
  | _ :: _, [], _, h => by simp [lexI] at h
  | x :: xs, y :: ys, h, k => by
    rw [lexI] at h k
    by_cases h1 : x = y
    · rw [if_pos h1] at h
      rw [if_pos h1.symm] at k
      rw [h1, lexI_tri h k]
    · rw [if_neg h1] at h
      rw [if_neg (fun z => h1 z.symm)] at k
      have h' := of_decide_eq_false h
      have k' := of_decide_eq_false k
      omega
theorem lexI_asymm {xs ys : List Int} (h : lexI xs ys = true) : lexI ys xs = false := by
  cases k : lexI ys xs with
  | false => rfl
  | true =>
    have := lexI_trans h k
    rw [lexI_irrefl] at this
    cases this
def leI (a b : List Int) : Bool := !lexI b a
theorem leI_trans (a b c : List Int) (h : leI a b = true) (k : leI b c = true) : leI a c = true := by
  unfold leI at *
  simp only [Bool.not_eq_true'] at *
  cases e : lexI c a with
  | false => rfl
  | true =>
    cases f : lexI a b with
    | true => rw [lexI_trans e f] at k; cases k
    | false =>
      have := lexI_tri f h
      subst this
      rw [e] at k; cases k
theorem leI_total (a b : List Int) : (leI a b || leI b a) = true := by
  unfold leI
  cases e : lexI b a with
  | false => rfl
  | true => rw [lexI_asymm e]; rfl
theorem leI_anti {a b : List Int} (h : leI a b = true) (k : leI b a = true) : a = b := by
  unfold leI at *
  simp only [Bool.not_eq_true'] at *
  exact lexI_tri k h
theorem dLe_tupI (a b : List Int) : dLe (tupI a) (tupI b) = leI a b := by
  unfold dLe PySem.W.dataLe leI
  rw [← dataLt_tupI]
  rfl
theorem sorted_one {α : Type} {le : α → α → Bool} (anti : ∀ a b, le a b = true → le b a = true → a = b) : ∀ {l m : List α}, l.Perm m → l.Pairwise (fun a b => le a b = true) → m.Pairwise (fun a b => le a b = true) → l = m
  | [], m, p, _, _ => by rw [List.nil_perm.mp p]
  | a :: l, [], p, _, _ => by simpa using p.length_eq
  | a :: l, b :: m, p, h, k => by
    have ha : a ∈ b :: m := p.mem_iff.mp List.mem_cons_self
    have hb : b ∈ a :: l := p.mem_iff.mpr List.mem_cons_self
    have e : a = b := by
      rcases List.mem_cons.mp ha with q | q
      · exact q
      · rcases List.mem_cons.mp hb with r | r
        · exact r.symm
        · exact anti a b ((List.pairwise_cons.mp h).1 b r) ((List.pairwise_cons.mp k).1 a q)
    subst e
    rw [sorted_one anti ((List.perm_cons a).mp p) (List.pairwise_cons.mp h).2 (List.pairwise_cons.mp k).2]
/-- the tuples of xs in order, each once -/
def setI (xs : List (List Int)) : List (List Int) := xs.eraseDups.mergeSort leI
def sortSetD : D → Option D
  | .list ds => match itsD ds with
    | some ns => if ds.length < 64 ∧ srtOk ds = true then some (.list ((setI ns).map tupI)) else none
    | none => none
  | _ => none
theorem isIT_eq {d : D} {ns : List Int} (h : isIT d = some ns) : d = tupI ns := by
  unfold isIT at h
  split at h
  · rename_i ds
    have : ∀ (ds : List D) (ns : List Int), intsD ds = some ns → ds = ns.map PyData.int := by
      intro ds
      induction ds with
      | nil => intro ns e; unfold intsD at e; cases e; rfl
      | cons d ds ih =>
        intro ns e
        unfold intsD at e
        split at e
        · rename_i h1; cases h1
        · rename_i h1
          cases h1
          obtain ⟨r, e1, e2⟩ := Option.map_eq_some_iff.mp e
          subst e2
          rw [List.map_cons, ih r e1]
        · cases e
    rw [this ds ns h]
  · cases h
theorem itsD_eq : ∀ {ds : List D} {ns : List (List Int)}, itsD ds = some ns → ds = ns.map tupI
  | [], _, h => by unfold itsD at h; cases h; rfl
  | d :: r, _, h => by
    unfold itsD at h
    obtain ⟨n, e1, e2⟩ := Option.bind_eq_some_iff.mp h
    obtain ⟨l, e3, e4⟩ := Option.map_eq_some_iff.mp e2
    subst e4
    rw [List.map_cons, isIT_eq e1, itsD_eq e3]
end DP
set_option Elab.async false
set_option linter.all false
set_option maxRecDepth 100000
/-! DP, part 17: sorted(set(xs)), the walk. -/
namespace DP
open PySem PySem.Spec PyProof.Rows L2

theorem reads_tupI {P : Program} {w : World} {h : Heap} {k : List Int} {b : Addr} (x : IsT P w h k b) : ∃ as, Reads h (.ref b) (tupI k) as ∧ as = [] := by
  obtain ⟨o, items, n, ho, hc, hd, hi⟩ := x
  have all : ∀ {k : List Int} {vs : List Value}, ItemsAre (intKind P w) k vs → ReadsAll h vs (k.map PyData.int) [] := by
    intro k vs hi
    induction hi with
    | nil => exact .nil
    | @cons k0 v ks vs h1 _ ih =>
      obtain ⟨t, rfl⟩ := Value.isInt_shape h1
      exact .cons (as := []) (bs := []) (.int k0 t) ih
  exact ⟨[], .tuple ho hc hd (all hi), rfl⟩
/-- sorted(s) of a set of tuples of ints -/
def rSortedSet (K : PySem.W.Frag) (P : Program) (w : World) : List V → Hp → VK → Prop := fun vs H Q => ∃ (a : Addr) (L : List (Addr × List Int)), vs = [V.ref a] ∧ H a = some (SetTO P w a L) ∧ (∀ p ∈ L, SqT K H p.1 (p.2.map V.int)) ∧ srtOk (L.map fun p => tupI p.2) = true ∧
  ∀ (L' : List (Addr × List Int)) (p : Addr), L'.Perm L → (L'.map (·.2)).Nodup → (L'.map (·.2)).Pairwise (fun q r => leI q r = true) → H p = none → Q (.ref p) (upd H p (.lst (L'.map fun q => V.ref q.1)))
section
variable {X : Cx} {Wx : WX}
theorem srtOk_perm {xs ys : List D} (p : ∀ x ∈ ys, x ∈ xs) (h : srtOk xs = true) : srtOk ys = true := by
  simp only [srtOk, Bool.and_eq_true, Bool.or_eq_true, List.all_eq_true] at h ⊢
  exact ⟨⟨fun x hx y hy => h.1.1 x (p x hx) y (p y hy), h.1.2.imp (fun q x hx => q x (p x hx)) fun q x hx => q x (p x hx)⟩, fun x hx => h.2 x (p x hx)⟩
theorem cr_sortedSetT (hc : X.calm = true) (hu : X.A.units + 64 < cLine) : CallR X (.builtin "sorted") (rSortedSet X.K X.prog X.w) := by
  intro pins s σ H vs us Q I r h
  obtain ⟨a, L, rfl, ha, hk, ok, q⟩ := h
  have R0 : SetT0 X.prog X.w s.heap a L := (I.hok a _ ha).1
  obtain ⟨es, ep, t, R⟩ := R0.full fun p hp => I.isT (hk p hp)
  rw [Vals.ref1 r]
  obtain ⟨o, ho, hex, hd⟩ := R.ob
  have hsz := R.size
  have hfew := R.few
  refine Calls.call_function_entry kind_sorted plain_sorted entry_sorted (args_sorted1 _) ?_
  unfold Builtin.«sorted»
  refine wpAny_bind (m := checkCount "sorted" 1 1 _) (wpAny_pure ?_)
  refine wpAny_bind (collect_set (A := X.A.in1) (I.ok.hd hc) ⟨o, ho, hex.1, hd⟩ R.fits (by unfold scanBound; omega) R.tab.ris R.led fun s1 vs k1 hz g1 o1 pm => ?_)
  have hes : es.toList.map (·.2) = L.map fun q => Value.ref q.1 := by
    rw [R.rows]
    unfold rowsOf
    rw [List.map_map] <;> rfl
  rw [hes] at pm
  -- what was collected: the rows, turned somehow
  have ord : ∀ vs : List Value, (∀ v ∈ vs, ∃ q ∈ L, v = Value.ref q.1) → ∃ L1 : List (Addr × List Int), vs = L1.map (fun q => Value.ref q.1) ∧ ∀ q ∈ L1, q ∈ L := by
    intro vs
    induction vs with
    | nil => exact fun _ => ⟨[], rfl, fun q hq => nomatch hq⟩
    | cons v vs ih =>
      intro hv
      obtain ⟨q, hq, rfl⟩ := hv v List.mem_cons_self
      obtain ⟨L1, rfl, hs⟩ := ih fun u hu => hv u (List.mem_cons_of_mem _ hu)
      exact ⟨q :: L1, rfl, fun r hr => (List.mem_cons.mp hr).elim (fun z => z ▸ hq) (hs r)⟩
  have one : ∀ q ∈ L, ∀ r ∈ L, q.1 = r.1 → q = r := fun q hq r hr e => by
    have a1 := R.tup q hq
    have a2 := R.tup r hr
    rw [e] at a1
    exact Prod.ext e (a1.inj a2)
  have nL : L.Nodup := nodup_of_map R.nd
  have perm_of : ∀ L1 : List (Addr × List Int), (∀ q ∈ L1, q ∈ L) → (L1.map (fun q => Value.ref q.1)).Perm (L.map fun q => Value.ref q.1) → L1.Perm L := by
    intro L1 hs pm1
    have nref : (L.map fun q => Value.ref q.1).Nodup := by
      refine List.pairwise_map.mpr (List.Pairwise.imp_of_mem (fun {q r} hq hr hne e => ?_) nL)
      injection e with e
      exact hne (one q hq r hr e)
    refine (List.perm_ext_iff_of_nodup (nodup_of_map (pm1.nodup_iff.mpr nref)) nL).mpr fun q => ⟨hs q, fun hq => ?_⟩
    obtain ⟨r, hr, e⟩ := List.mem_map.mp (pm1.mem_iff.mpr (List.mem_map.mpr ⟨q, hq, rfl⟩))
    injection e with e
    rw [← one r (hs r hr) q hq e]
    exact hr
  obtain ⟨L1, rfl, hs1⟩ := ord vs fun v hv => by
    obtain ⟨q, hq, e⟩ := List.mem_map.mp (pm.mem_iff.mp hv)
    exact ⟨q, hq, e.symm⟩
  have p1 : L1.Perm L := perm_of L1 hs1 pm
  have hl1 : L1.length < 64 := by rw [p1.length_eq]; exact hfew
  refine wpAny_bind (wpAny_newList ?_ (by rw [List.length_map, sizeLine_eq]; omega))
  have hoL : (s1.heap.push (seqObj "list" (L1.map fun q => Value.ref q.1).toArray 0)).get? s1.heap.objs.size = some (seqObj "list" (L1.map fun q => Value.ref q.1).toArray 0) := Heap.get?_push_size _ rfl
  have ok1 : srtOk (L1.map fun p => tupI p.2) = true := srtOk_perm (fun x hx => by
    obtain ⟨q, hq, rfl⟩ := List.mem_map.mp hx
    exact List.mem_map.mpr ⟨q, hs1 q hq, rfl⟩) ok
  have each : ∀ L2 : List (Addr × List Int), (∀ q ∈ L2, q ∈ L) → PySem.W.EachIs (fun (v : Value) (b : Addr × List Int) => v = .ref b.1) (L2.map fun q => Value.ref q.1) L2 ∧
      PySem.W.EachIs (fun v b => ∃ as, Reads (s1.heap.push (seqObj "list" (L1.map fun q => Value.ref q.1).toArray 0)) v (tupI b.2) as ∧ s1.heap.objs.size ∉ as) (L2.map fun q => Value.ref q.1) L2 := by
    intro L2
    induction L2 with
    | nil => exact fun _ => ⟨.nil, .nil⟩
    | cons q L2 ih =>
      intro hq
      obtain ⟨a1, a2⟩ := ih fun r hr => hq r (List.mem_cons_of_mem _ hr)
      obtain ⟨as, ra, rfl⟩ := reads_tupI (P := X.prog) (w := X.w) (isT_keep (h' := s1.heap.push (seqObj "list" (L1.map fun q => Value.ref q.1).toArray 0)) (R.tup q (hq q List.mem_cons_self)) fun b u e => Heap.get?_push_of_some _ (k1 b u e))
      exact ⟨.cons rfl a1, .cons ⟨[], ra, fun z => nomatch z⟩ a2⟩
  obtain ⟨ea, eb⟩ := each L1 hs1
  have al : PySem.W.AllAlike (L1.map fun p => tupI p.2) := by
    have := srtOk_alike ok1
    rwa [List.map_id] at this
  have so : PySem.W.Sortable (L1.map fun p => tupI p.2) := by
    have := srtOk_sortable ok1
    rwa [List.map_id] at this
  refine wpAny_bind (wpAny_holding (PySem.W.list_sort_data (s := { s1 with heap := s1.heap.push (seqObj "list" (L1.map fun q => Value.ref q.1).toArray 0) }) (bs := L1) (enc := fun p => tupI p.2) (R := fun v b => v = .ref b.1) hoL ea eb al so
    (by rw [sizeLine_eq]; omega) (fun b hb => ?_) fun out hl he => ?_))
  · have h60 := srtOk_depth ok1 _ (List.mem_map.mpr ⟨b, hb, rfl⟩)
    show X.A.units + 1 + 1 + (tupI b.2).depth < cLine
    omega
  · have eo : out = (L1.mergeSort (PySem.W.dataLe false fun p => tupI p.2)).map fun q => Value.ref q.1 := by
      have : ∀ {vs : List Value} {L2 : List (Addr × List Int)}, PySem.W.EachIs (fun (v : Value) (b : Addr × List Int) => v = .ref b.1) vs L2 → vs = L2.map fun q => Value.ref q.1 := by
        intro vs L2 h
        induction h with
        | nil => rfl
        | cons e _ ih => rw [List.map_cons, ← ih, e]
      exact this he
    subst eo
    obtain ⟨c, hcc⟩ := sortedHeap_at (vs := L1.map fun q => Value.ref q.1) (out := ((L1.mergeSort (PySem.W.dataLe false fun p => tupI p.2)).map fun q => Value.ref q.1).toArray) hoL
    have hp : H s1.heap.objs.size = none := I.hok.fresh hz
    have pm' : (L1.mergeSort (PySem.W.dataLe false fun p => tupI p.2)).Perm L := (List.mergeSort_perm _ _).trans p1
    have srt : (L1.mergeSort (PySem.W.dataLe false fun p => tupI p.2)).Pairwise fun q r => PySem.W.dataLe false (fun p : Addr × List Int => tupI p.2) q r = true := by
      have e : ∀ q r : Addr × List Int, PySem.W.dataLe false (fun p => tupI p.2) q r = leI q.2 r.2 := fun q r => dLe_tupI q.2 r.2
      refine List.pairwise_mergeSort (fun a b c h k => ?_) (fun a b => ?_) _
      · rw [e] at h k ⊢; exact leI_trans _ _ _ h k
      · rw [e, e]; exact leI_total _ _
    have keep : ∀ b u, s.heap.get? b = some u → (sortedHeap (s1.heap.push (seqObj "list" (L1.map fun q => Value.ref q.1).toArray 0)) s1.heap.objs.size (L1.map fun q => Value.ref q.1) ((L1.mergeSort (PySem.W.dataLe false fun p => tupI p.2)).map fun q => Value.ref q.1).toArray).get? b = some u := fun b u e => by
      have q := k1 b u e
      have hlt := Heap.lt_size q
      rw [sortedHeap_old (Nat.ne_of_lt hlt) (by rw [size_push']; exact Nat.lt_succ_of_lt hlt)]
      exact Heap.get?_push_of_some _ q
    have hlen : ((L1.mergeSort (PySem.W.dataLe false fun p => tupI p.2)).map fun q => V.ref q.1).length ≤ sizeLine := by rw [List.length_map, List.length_mergeSort, sizeLine_eq]; omega
    refine wpAny_pure ⟨_, rfl, ?_⟩
    have hv : Vals ((L1.mergeSort (PySem.W.dataLe false fun p => tupI p.2)).map fun q => V.ref q.1) ((L1.mergeSort (PySem.W.dataLe false fun p => tupI p.2)).map fun q => Value.ref q.1) := vals_of_refs _
    have J := I.call (H' := upd H s1.heap.objs.size (.lst ((L1.mergeSort (PySem.W.dataLe false fun p => tupI p.2)).map fun q => V.ref q.1))) (g' := s1.gens) (t' := s1.toks) (d' := s1.drawn) (ch := []) (Un.laid keep hz hp) (I.hok.laid keep hz ⟨hlen, _, c, hv, hcc⟩) (by rw [g1]; exact I.bare) (fun _ z => nomatch z)
    have nd : ((L1.mergeSort (PySem.W.dataLe false fun p => tupI p.2)).map (·.2)).Nodup := (pm'.map (·.2)).nodup_iff.mpr R.nd
    have pw : ((L1.mergeSort (PySem.W.dataLe false fun p => tupI p.2)).map (·.2)).Pairwise (fun q r => leI q r = true) := List.pairwise_map.mpr (srt.imp fun {q r} z => by rw [← dLe_tupI]; exact z)
    have goal : EP X pins σ Q (.ref s1.heap.objs.size) { s with heap := sortedHeap (s1.heap.push (seqObj "list" (L1.map fun q => Value.ref q.1).toArray 0)) s1.heap.objs.size (L1.map fun q => Value.ref q.1) ((L1.mergeSort (PySem.W.dataLe false fun p => tupI p.2)).map fun q => Value.ref q.1).toArray, gens := s1.gens, drawn := s1.drawn, toks := s1.toks } :=
      ⟨.ref s1.heap.objs.size, _, J, rfl, q _ _ pm' nd pw hp⟩
    have eo : s1.os = s.os := o1
    cases s1
    cases s
    cases eo
    exact goal
theorem nodup_dups {α : Type} [BEq α] [LawfulBEq α] : ∀ (n : Nat) (xs : List α), xs.length ≤ n → xs.eraseDups.Nodup
  | _, [], _ => by simp
  | 0, x :: xs, h => by simp at h
  | n + 1, x :: xs, h => by
    rw [List.eraseDups_cons, List.nodup_cons]
    refine ⟨fun z => ?_, nodup_dups n _ (Nat.le_trans (List.length_filter_le _ _) (by simpa using h))⟩
    have := List.mem_eraseDups.mp z
    simp at this
theorem perm_dups {xs ys : List (List Int)} (n : ys.Nodup) (h1 : ∀ x ∈ ys, x ∈ xs) (h2 : ∀ x ∈ xs, x ∈ ys) : ys.Perm xs.eraseDups :=
  (List.perm_ext_iff_of_nodup n (nodup_dups _ xs (Nat.le_refl _))).mpr fun x => by rw [List.mem_eraseDups]; exact ⟨h1 x, h2 x⟩
def xSortSet (f : XF) : XF := x1 sortSetD f
theorem en_sortSet {e : Expr} {f : XF} {p p2 q pos : Pos} (hc : X.calm = true) (hu : X.A.units + 64 < cLine) (hg : Gl X "sorted") (hm : X.mg "sorted" = none) (hg2 : Gl X "set") (hm2 : X.mg "set" = none) (he : EX X Wx e f)
    (hs : starEach [e] X.env = (false, eval e X.env) :: starEach [] X.env := by rfl)
    (hs2 : starEach [.Call (.Name "set" p2) [e] [] q] X.env = (false, eval (.Call (.Name "set" p2) [e] [] q) X.env) :: starEach [] X.env := by rfl) :
    EN X Wx (.Call (.Name "sorted" p) [.Call (.Name "set" p2) [e] [] q] [] pos) (xSortSet f) := by
  have hset : PE X (.Call (.Name "set" p2) [e] [] q) (tCB (rSetOfT X.K X.prog X.w) (tCons _ tNil)) := pe_callTy (cr_setOfT hc hu) hg2 hm2 (by rfl) (pa_cons he pa_nil hs) (by decide) (by decide) hs (by rfl)
  refine PE.wk (pe_callB (cr_sortedSetT hc hu) hg hm (by rfl) (pa_cons hset pa_nil hs2) (by decide) (by decide) hs2 (by rfl)) ?_
  rintro σ H Q ⟨ρ, W, env, A, S, h⟩
  refine tN_then S h fun d W1 H1 env1 A1 v S1 F1 r1 h1 => ?_
  simp only at h1
  unfold sortSetD at h1
  split at h1
  · rename_i d' ds
    simp only [Rep] at r1
    obtain ⟨a, vs, rfl, q1, l⟩ := r1
    split at h1
    · rename_i ns en
      split at h1
      · rename_i c
        have eds := itsD_eq en
        subst eds
        obtain ⟨ks, rfl, k1, k2⟩ : ∃ ks : List (Addr × List Int), vs = ks.map (fun p => V.ref p.1) ∧ ks.map (·.2) = ns ∧ ∀ p ∈ ks, SqT X.K W1 p.1 (p.2.map V.int) := by
          clear h1 en c q1
          induction ns generalizing vs with
          | nil => simp only [List.map_nil, RepL] at l; subst l; exact ⟨[], rfl, rfl, fun p hp => nomatch hp⟩
          | cons n ns ih =>
            simp only [List.map_cons, RepL, Rep] at l
            obtain ⟨v, r, rfl, ⟨b, us, rfl, hb, lb⟩, l2⟩ := l
            obtain ⟨ks, rfl, e1, e2⟩ := ih _ l2
            have eus : us = n.map V.int := by
              clear hb
              induction n generalizing us with
              | nil => simp only [List.map_nil, RepL] at lb; exact lb
              | cons i n ih2 =>
                simp only [List.map_cons, RepL, Rep] at lb
                obtain ⟨_, r2, rfl, rfl, lb2⟩ := lb
                rw [ih2 _ lb2, List.map_cons]
            subst eus
            exact ⟨(b, n) :: ks, rfl, by rw [List.map_cons, e1], fun p hp => (List.mem_cons.mp hp).elim (fun z => z ▸ hb) (e2 p)⟩
        refine ⟨a, ks, rfl, .of (S1.sub _ _ q1), fun p hp => Same.sqt S1.sub (k2 p hp), by rw [← k1, List.length_map, List.length_map] at c; exact c.1, fun b L hb hL1 hL2 => ?_⟩
        refine ⟨b, L, rfl, upd_same, fun p hp => ?_, srtOk_perm (fun x hx => ?_) c.2, fun L' p' pm nd pw hp' => ?_⟩
        · exact Same.sqt (fun c u z => by rw [upd_ne (ne_of_none z hb)]; exact z) (Same.sqt S1.sub (k2 p (hL1 p hp)))
        · obtain ⟨p, hp, rfl⟩ := List.mem_map.mp hx
          rw [← k1]
          exact List.mem_map.mpr ⟨p.2, List.mem_map.mpr ⟨p, hL1 p hp, rfl⟩, rfl⟩
        · have e : L'.map (·.2) = setI ns := by
            refine sorted_one (le := leI) (fun a b => leI_anti) ?_ pw (List.pairwise_mergeSort (fun a b c h k => leI_trans a b c h k) (fun a b => leI_total a b) _)
            refine List.Perm.trans ?_ (List.mergeSort_perm _ _).symm
            refine perm_dups nd (fun x hx => ?_) fun x hx => ?_
            · obtain ⟨p, hp, rfl⟩ := List.mem_map.mp hx
              rw [← k1]
              exact List.mem_map.mpr ⟨p, hL1 p (pm.mem_iff.mp hp), rfl⟩
            · rw [← k1] at hx
              obtain ⟨p, hp, rfl⟩ := List.mem_map.mp hx
              exact (pm.map (·.2)).mem_iff.mpr (hL2 p hp)
          have rl : RepL X.K X.w W1 ((setI ns).map tupI) (L'.map fun q => V.ref q.1) := by
            rw [← e]
            have : ∀ L2 : List (Addr × List Int), (∀ p ∈ L2, SqT X.K W1 p.1 (p.2.map V.int)) → RepL X.K X.w W1 ((L2.map (·.2)).map tupI) (L2.map fun q => V.ref q.1) := by
              intro L2
              induction L2 with
              | nil => exact fun _ => RepL.nil
              | cons p L2 ih =>
                intro hp
                refine RepL.cons ?_ (ih fun q hq => hp q (List.mem_cons_of_mem _ hq))
                simp only [Rep]
                refine ⟨p.1, _, rfl, hp p List.mem_cons_self, ?_⟩
                generalize p.2 = n
                induction n with
                | nil => exact RepL.nil
                | cons i n ih => exact RepL.cons rfl ih
            exact this L' fun p hp => k2 p (hL1 p (pm.mem_iff.mp hp))
          have h2 := onW_of S1 h1
          have e2 : Ex W1 H1 W1 (upd H1 b (SetTO X.prog X.w b L)) := Ex.junk S1.sub hb
          have n2 : H1 p' = none := by
            by_cases z : p' = b
            · rw [z]; exact hb
            · rwa [upd_ne z] at hp'
          have e3 := e2.trans (Ex.junk (p := p') (o := .lst (L'.map fun q => V.ref q.1)) e2.sub hp')
          exact h2 W1 _ p' e3 (S1.sub.free n2) ⟨_, upd_same, rl⟩ n2
      · exact h1.elim
    · exact h1.elim
  · exact h1.elim
end
end DP
set_option Elab.async false
set_option linter.all false
set_option maxRecDepth 100000
/-! DP, part 18: dicts made of pairs; d[k] = v; k in d; d.get; sorted(d.items()). -/
namespace DP
open PySem PySem.Spec PyProof.Rows L2

/-! ### d[k] = v on data -/
def dPut (kvs : List (D × D)) (k v : D) : List (D × D) := if kvs.any (kIs k) = true then kvs.map (fun p => if kIs k p = true then (p.1, v) else p) else kvs ++ [(k, v)]
theorem map_modify {α β : Type} [DecidableEq β] (f : α → β) (g : α → α) : ∀ {l : List α} {j : Nat} {p : α}, (l.map f).Nodup → l[j]? = some p → l.map (fun q => if decide (f q = f p) = true then g q else q) = l.modify j g
  | [], _, _, _, h => by simp at h
  | q :: l, 0, p, n, h => by
    cases h
    rw [List.map_cons, List.nodup_cons] at n
    rw [List.map_cons, if_pos (by simp), List.modify_zero_cons]
    congr 1
    conv => rhs; rw [← List.map_id l]
    refine List.map_congr_left fun r hr => ?_
    rw [if_neg (by
      simp only [decide_eq_true_eq]
      exact fun z => n.1 (by rw [← z]; exact List.mem_map.mpr ⟨r, hr, rfl⟩))]
    rfl
  | q :: l, j + 1, p, n, h => by
    rw [List.map_cons, List.nodup_cons] at n
    have h' : l[j]? = some p := by simpa using h
    rw [List.map_cons, List.modify_succ_cons, if_neg (by
      simp only [decide_eq_true_eq]
      exact fun z => n.1 (by rw [z]; exact List.mem_map.mpr ⟨p, List.mem_of_getElem? h', rfl⟩)), map_modify f g n.2 h']
theorem dPut_keys {kvs : List (D × D)} {k v : D} (n : (kvs.map fun p => keyD p.1).Nodup) : ((dPut kvs k v).map fun p => keyD p.1).Nodup := by
  unfold dPut
  split
  · rw [List.map_map]
    have : ((fun p : D × D => keyD p.1) ∘ fun p => if kIs k p = true then (p.1, v) else p) = fun p => keyD p.1 := by
      funext p
      simp only [Function.comp]
      split <;> rfl
    rw [this]
    exact n
  · rename_i c
    rw [List.map_append, List.nodup_append]
    refine ⟨n, by simp, ?_⟩
    intro a ha b hb
    simp only [List.map_cons, List.map_nil, List.mem_singleton] at hb
    subst hb
    rintro rfl
    obtain ⟨p, hp, e⟩ := List.mem_map.mp ha
    exact c (List.any_eq_true.mpr ⟨p, hp, decide_eq_true e⟩)
theorem dPut_len (kvs : List (D × D)) (k v : D) : (dPut kvs k v).length ≤ kvs.length + 1 := by
  unfold dPut
  split
  · rw [List.length_map]; omega
  · rw [List.length_append, List.length_singleton]; omega
section
variable {K : PySem.W.Frag} {w : World} {W : Hp}
theorem RepKV.snoc : ∀ {kvs : List (D × D)} {es : List DictEntry} {k v : D} {e : DictEntry}, RepKV K w W kvs es → (∃ kk, keyD k = some kk ∧ kk.depth ≤ 8 ∧ e.hash = kk.hash w) → (∃ x, RelV x e.key ∧ Rep K w W k x) → (∃ y, RelV y e.val ∧ Rep K w W v y) → RepKV K w W (kvs ++ [(k, v)]) (es ++ [e])
  | [], _, k, v, e, h, a, b, c => by
    simp only [RepKV] at h
    subst h
    simp only [List.nil_append, RepKV]
    exact ⟨e, [], rfl, a, b, c, rfl⟩
  | (k', d) :: r, _, k, v, e, h, a, b, c => by
    simp only [RepKV] at h
    obtain ⟨en, q, rfl, h1, h2, h3, h4⟩ := h
    simp only [List.cons_append, RepKV]
    exact ⟨en, q ++ [e], rfl, h1, h2, h3, RepKV.snoc h4 a b c⟩
theorem RepKV.modify : ∀ {kvs : List (D × D)} {es : List DictEntry} {j : Nat} {v : D} {y : V} {u : Value}, RepKV K w W kvs es → RelV y u → Rep K w W v y → RepKV K w W (kvs.modify j fun p => (p.1, v)) (es.modify j fun e => { e with val := u })
  | [], _, j, _, _, _, h, _, _ => by simp only [RepKV] at h; subst h; simp [RepKV]
  | (k, d) :: r, _, 0, v, y, u, h, a, b => by
    simp only [RepKV] at h
    obtain ⟨en, q, rfl, h1, h2, h3, h4⟩ := h
    simp only [List.modify_zero_cons, RepKV]
    exact ⟨_, q, rfl, h1, h2, ⟨y, a, b⟩, h4⟩
  | (k, d) :: r, _, j + 1, v, y, u, h, a, b => by
    simp only [RepKV] at h
    obtain ⟨en, q, rfl, h1, h2, h3, h4⟩ := h
    simp only [List.modify_succ_cons, RepKV]
    exact ⟨en, _, rfl, h1, h2, h3, RepKV.modify h4 a b⟩
/-- the entries behind d[k] = v show the data behind it -/
theorem RepKV.put {kvs : List (D × D)} {es : List DictEntry} {ks : List NestedKey} {k v : D} {kk : NestedKey} {r : Option Nat} {x y : V} {u z : Value} (h : RepKV K w W kvs es) (nd : (kvs.map fun p => keyD p.1).Nodup) (ek : kvs.map (fun p => keyD p.1) = ks.map some) (hk : keyD k = some kk) (dk : kk.depth ≤ 8) (hit : Hit ks kk r)
    (rx : RelV x u) (rk : Rep K w W k x) (ry : RelV y z) (rv : Rep K w W v y) : RepKV K w W (dPut kvs k v) (putE es r (kk.hash w) u z) := by
  cases r with
  | none =>
    unfold dPut putE
    rw [if_neg (by rw [(hit_none ek hk hit).2]; exact Bool.false_ne_true)]
    exact h.snoc ⟨kk, hk, dk, rfl⟩ ⟨x, rx, rk⟩ ⟨y, ry, rv⟩
  | some j =>
    obtain ⟨p, h1, h2, _, h4⟩ := hit_some ek nd hk hit
    unfold dPut putE
    rw [if_pos h4]
    have e : kvs.map (fun p => if kIs k p = true then (p.1, v) else p) = kvs.modify j fun p => (p.1, v) := by
      rw [← map_modify (fun p : D × D => keyD p.1) (fun p => (p.1, v)) nd h1]
      refine List.map_congr_left fun q _ => ?_
      unfold kIs
      rw [h2]
    rw [e]
    exact h.modify ry rv
theorem RepKV.ents' {h : Heap} (nest : ∀ d v u k, Rep K w W d v → RelV v u → keyD d = some k → NestedIs h k u) {kvs : List (D × D)} {es : Array DictEntry} (r : RepKV K w W kvs es.toList) (nd : (kvs.map fun p => keyD p.1).Nodup) :
    ∃ ks : List NestedKey, kvs.map (fun p => keyD p.1) = ks.map some ∧ Ents w h ks es := by
  obtain ⟨ks, e⟩ := r.keys
  refine ⟨ks, e, ?_, fun i en he => ?_, ?_⟩
  · have h1 := congrArg List.length e
    have h2 := r.len
    rw [Array.length_toList] at h2
    simp only [List.length_map] at h1
    omega
  · obtain ⟨k, v, q1, ⟨kk, q2, q3, q4⟩, ⟨x, q5, q6⟩, _⟩ := r.at (j := i) (e := en) (by rw [Array.getElem?_toList]; exact he)
    refine ⟨kk, ?_, nest _ _ _ _ q6 q5 q2, q3, q4⟩
    have := congrArg (fun l => l[i]?) e
    simp only [List.getElem?_map, q1, Option.map_some, q2] at this
    cases hk : ks[i]? with
    | none => rw [hk] at this; cases this
    | some z => rw [hk] at this; cases this; rfl
  · rw [e] at nd
    exact List.Pairwise.of_map some (fun a b h z => h (congrArg some z)) nd
theorem dicO_new {P : Program} {H : Hp} {h : Heap} {a : Addr} {es : Array DictEntry} {ep : Nat} (hs : (a == sysModules) = false) (hz : es.size ≤ sizeLine) (ho : h.get? a = some (dobj es ep)) : ObjOk P w H h a (dicO a es ep) :=
  ⟨⟨hs, hz, ho⟩, ⟨_, ho⟩, fun _ _ ⟨q1, q2, q3⟩ k => ⟨q1, q2, k _ q3⟩⟩
end

/-! ### dict(xs), xs a list of pairs -/
def pairD : D → Option (D × D)
  | .tuple [k, v] => if keyOk k = true then some (k, v) else none
  | _ => none
def pairsD : List D → Option (List (D × D))
  | [] => some []
  | d :: r => (pairD d).bind fun p => (pairsD r).map fun l => p :: l
def dMerge (kvs more : List (D × D)) : List (D × D) := more.foldl (fun acc p => dPut acc p.1 p.2) kvs
theorem dMerge_len : ∀ (more kvs : List (D × D)), (dMerge kvs more).length ≤ kvs.length + more.length
  | [], kvs => Nat.le_refl _
  | p :: r, kvs => by
    have h1 := dMerge_len r (dPut kvs p.1 p.2)
    have h2 := dPut_len kvs p.1 p.2
    show (dMerge (dPut kvs p.1 p.2) r).length ≤ _
    rw [List.length_cons]
    omega
section
variable {P : Program} {w : World} {A : Around} {E : Value → Shared → Prop} {K : PySem.W.Frag} {W : Hp}
/-- what is known of a row of pairs -/
def PairsAt (K : PySem.W.Frag) (w : World) (W : Hp) (h : Heap) (items : List Value) (ps : List (D × D)) : Prop :=
  ∀ (j : Nat) (p : D × D), ps[j]? = some p → ∃ (b : Addr) (u z : Value) (x y : V), items[j]? = some (.ref b) ∧ IsTup h b #[u, z] ∧ RelV x u ∧ Rep K w W p.1 x ∧ RelV y z ∧ Rep K w W p.2 y ∧ keyOk p.1 = true
theorem dset0 {s : Shared} {a : Addr} {es : Array DictEntry} {ep : Nat} {ks : List NestedKey} {k : NestedKey} {u v : Value} (N : Ents w s.heap ks es) (hu : A.units + 8 < cLine) (ho : s.heap.get? a = some (dobj es ep)) (hz : es.size ≤ sizeLine) (hk : NestedIs s.heap k u) (dk : k.depth ≤ 8) {Q : Unit → Shared → Prop}
    (h : ∀ h' es' ep' r t, Hit ks k r → h'.get? a = some (dobj es' ep') → Heap.SameBut a s.heap h' → es'.toList = putE es.toList r (k.hash w) u v → Q () { s with heap := h', toks := t }) :
    wpAny (model P w) A (dictSet a u v) Q E s := by
  unfold dictSet
  try with_reducible refine wpAny_holding ?_
  refine wpAny_bind (pyHash_key k u _ s _ hk (by omega) ?_)
  exact dSetHashed (s := { s with toks := s.toks + k.draws }) N hu ho hz hk dk fun h' es' ep' r hr e1 e2 e3 => h h' es' ep' r _ hr e1 e2 e3
theorem pairs_loop {R : Result → Shared → Prop} {S I l : Addr} {items : Array Value} {res : Value} {h0 : Heap} (hh : A.handled = none) (hu : A.units + 16 < cLine) (hlI : l ≠ I) (hSI : S ≠ I) (hSl : S ≠ l) (hsz0 : items.size ≤ sizeLine) (hS0 : h0.get? S = none) (hI0 : h0.get? I = none)
    (nest : ∀ d v u k, Rep K w W d v → RelV v u → keyD d = some k → NestedIs h0 k u) :
    ∀ (rest : List (D × D)) (i : Nat) (acc : List (D × D)) (es : Array DictEntry) (ep : Nat) (ix : Int) (t : Tok) (s : Shared), items.size = i + rest.length → acc.length ≤ i → PairsAt K w W h0 (items.toList.drop i) rest →
      (∀ b o, h0.get? b = some o → s.heap.get? b = some o) → s.heap.IsListIter I l i → s.heap.IsList l items → s.heap.get? S = some (dobj es ep) → RepKV K w W acc es.toList → (acc.map fun p => keyD p.1).Nodup →
      (∀ h' tk es' ep', (∀ b o, h0.get? b = some o → h'.get? b = some o) → h'.get? S = some (dobj es' ep') → RepKV K w W (dMerge acc rest) es'.toList → ((dMerge acc rest).map fun p => keyD p.1).Nodup → R (.ok (.ret res)) { s with heap := h', toks := tk }) →
      codeAny (model P w) A (.builtin "dict.update.loop" ⟨[.ref S, .ref I, .int ix t, res], []⟩) R s
  | [], i, acc, es, ep, ix, t, s, hsz, hla, hp, hk, hit, hl, hS, hr, hn, hR => by
    refine codeAny_builtin ud_entry ?_
    rw [Around.under_plainId ud_plain _]
    show wpAny _ A.in1 (pyNext (.ref I) >>= _) _ _ s
    refine wpAny_bind (wpAny_pyNext_list_end (A := A.in1) hh hit hl (Array.getElem?_eq_none (by rw [hsz]; simp)) fun h' he => ?_)
    show wpAny _ A.in1 (Builtin.Dict.addKeywords S [] >>= _) _ _ _
    refine wpAny_bind (wpAny_pure (wpAny_pure ?_))
    exact hR h' s.toks es ep (fun b o e => he b o (fun z => by rw [z, hI0] at e; cases e) (hk b o e)) (he S _ hSI hS) hr hn
  | q :: rest, i, acc, es, ep, ix, t, s, hsz, hla, hp, hk, hit, hl, hS, hr, hn, hR => by
    obtain ⟨b, u, z, x, y, hb, ht, rx, rk, ry, rv, ok⟩ := hp 0 q rfl
    obtain ⟨kk, k1, k2⟩ := keyOk_iff ok
    rw [List.length_cons] at hsz
    have hb' : items[i]? = some (.ref b) := by
      rw [← Array.getElem?_toList]
      simpa using hb
    refine codeAny_builtin ud_entry ?_
    rw [Around.under_plainId ud_plain _]
    show wpAny _ A.in1 (pyNext (.ref I) >>= _) _ _ s
    refine wpAny_bind (wpAny_pyNext_list_item (x := .ref b) hit hl hb' fun h1 hit1 hs1 => ?_)
    have k1' : ∀ c o, h0.get? c = some o → h1.get? c = some o := fun c o e => hs1.extBut c o (fun z => by rw [z, hI0] at e; cases e) (hk c o e)
    have ht1 : IsTup h1 b #[u, z] := ht.keeps k1'
    obtain ⟨o, ho, hc, n, hd⟩ := id ht1
    show wpAny _ A.in1 (holding [Value.ref b] _ >>= _) _ _ _
    refine wpAny_bind (wpAny_holding ?_)
    refine wpAny_bind (wpAny_tryCatch ?_)
    unfold Builtin.Dict.pairItems
    refine wpAny_bind (wpAny_typeOf (T := "tuple") ⟨o, ho, hc⟩ ?_)
    rw [if_pos (by first | decide | rfl | simp)]
    refine wpAny_bind (wpAny_seqItems ho hd (wpAny_pure ?_))
    show wpAny _ A.in1 (holding [u, z] (dictSet S u z)) _ _ _
    have nest1 : ∀ d v u k, Rep K w W d v → RelV v u → keyD d = some k → NestedIs h1 k u := fun d v u k a c e => NestedIs.at (fun c o _ _ e _ => k1' c o e) _ _ (nest d v u k a c e)
    obtain ⟨ks, ek, N⟩ := RepKV.ents' nest1 hr hn
    have hsz1 : es.size ≤ sizeLine := by
      have := hr.len
      rw [Array.length_toList] at this
      omega
    have hu1 : A.in1.units + 8 < cLine := by simp only [Around.in1_units]; omega
    refine wpAny_holding (dset0 (s := { s with heap := h1 }) N hu1 (hs1.extBut S _ hSI hS) hsz1 (nest1 _ _ _ _ rk rx k1) k2 fun h2 es2 ep2 r t2 hhit e1 e2 e3 => ?_)
    have k2' : ∀ c o, h0.get? c = some o → h2.get? c = some o := fun c o e => (e2.2 c (fun z => by rw [z, hS0] at e; cases e)).trans (k1' c o e)
    refine wpAny_pure ⟨plainId_quiet ud_plain _, pairs_loop hh hu hlI hSI hSl hsz0 hS0 hI0 nest rest (i + 1) (dPut acc q.1 q.2) es2 ep2 (ix + 1) 0 _ (by omega) (by have := dPut_len acc q.1 q.2; omega) (fun j p e => ?_) k2' ?_ ?_ e1 ?_ (dPut_keys hn) fun h' tk es' ep' a1 a2 a3 a4 => hR h' tk es' ep' a1 a2 a3 a4⟩
    · obtain ⟨b2, u2, z2, x2, y2, hb2, more⟩ := hp (j + 1) p (by simpa using e)
      refine ⟨b2, u2, z2, x2, y2, ?_, more⟩
      rw [List.getElem?_drop] at hb2 ⊢
      rw [show i + 1 + j = i + (j + 1) by omega]
      exact hb2
    · exact hit1.at fun o' e => (e2.2 I (Ne.symm hSI)).trans e
    · exact (hl.extBut hs1.extBut hlI).extBut e2.extBut (Ne.symm hSl)
    · rw [e3]
      exact hr.put hn ek k1 k2 hhit rx rk ry rv
theorem ddict {s : Shared} {l : Addr} {ol : Obj} {items : Array Value} {n : Nat} {ps : List (D × D)} {Q : Value → Shared → Prop} (hh : A.handled = none) (hu : A.units + 17 < cLine) (hl : s.heap.get? l = some ol) (hc : ol.cls = .type "list") (hd : ol.dict = none)
    (hdat : ol.data = .seq items n) (hsz : items.size = ps.length) (hln : items.size ≤ sizeLine) (hp : PairsAt K w W s.heap items.toList ps) (nest : ∀ d v u k, Rep K w W d v → RelV v u → keyD d = some k → NestedIs s.heap k u)
    (h : ∀ h' tk es ep, (∀ b o, s.heap.get? b = some o → h'.get? b = some o) → h'.get? s.heap.objs.size = some (dobj es ep) → RepKV K w W (dMerge [] ps) es.toList → ((dMerge [] ps).map fun p => keyD p.1).Nodup → Q (.ref s.heap.objs.size) { s with heap := h', toks := tk }) :
    wpAny (model P w) A (call (.type "dict") [.ref l]) Q E s := by
  refine callType_codes (Q₁ := fun obj s₁ => obj = .ref s.heap.objs.size ∧ s₁ = { s with heap := s.heap.push (dobj #[] 0) }) PySem.F.kt_called_dict (PySem.F.kt_typeCall_dict_1 _) PySem.F.entry_dict_init (kt_code_dict_new _ ⟨rfl, rfl⟩) ?_
  rintro obj s₁ ⟨rfl, rfl⟩
  have hS0 : (s.heap.push (dobj #[] 0)).get? s.heap.objs.size = some (dobj #[] 0) := Heap.get?_push_size _ rfl
  have T : Shared.TypeIs { s with heap := s.heap.push (dobj #[] 0) } (.ref s.heap.objs.size) "dict" := ⟨_, hS0, rfl⟩
  have k0 : ∀ b o, s.heap.get? b = some o → (s.heap.push (dobj #[] 0)).get? b = some o := fun b o e => Heap.get?_push_of_some _ e
  have out : ∀ b, s.heap.objs.size ≤ b → s.heap.get? b = none := fun b hb => by
    cases q : s.heap.get? b with
    | none => rfl
    | some o => exact absurd (Nat.lt_of_lt_of_le (Heap.lt_size q) hb) (Nat.lt_irrefl _)
  refine ⟨T, PySem.F.args_dict_init_2 _ _, ?_⟩
  unfold Builtin.«dict.__init__»
  refine wpAny_bind ?_
  unfold Builtin.Dict.selfAndRest
  refine wpAny_bind (wpAny_notOrdered_dict T ?_)
  show wpAny _ _ (pure (s.heap.objs.size, [Value.ref l])) _ _ _
  refine wpAny_pure ?_
  show wpAny _ _ (Builtin.Dict.updateFrom "dict.__init__" s.heap.objs.size (.ref l) [] .none) _ _ _
  unfold Builtin.Dict.updateFrom
  refine wpAny_bind (wpAny_typeOf (T := "list") ⟨ol, k0 _ _ hl, hc⟩ ?_)
  rw [if_pos (by first | decide | rfl | simp)]
  refine wpAny_bind (miss_list (k0 _ _ hl) hc hdat hd hh fun h1 tk1 hk1 => ?_)
  rw [if_pos (show (none : Option Value).isNone = true from rfl)]
  refine wpAny_bind (wpAny_rule ?_)
  have hl1 : h1.IsList l items := ⟨ol, hk1 _ _ (k0 _ _ hl), hc, n, hdat⟩
  have hS1 : s.heap.objs.size < h1.objs.size := Heap.lt_size (hk1 _ _ hS0)
  refine wpAny_bind (wpAny_pyIter_list hl1 ?_)
  have k2 : ∀ b o, h1.get? b = some o → (h1.push { cls := .type "list_iterator", data := .fields #[.ref l, .int 0 0] }).get? b = some o := fun b o e => Heap.get?_push_of_some _ e
  have hlt : l < s.heap.objs.size := Heap.lt_size hl
  have key := pairs_loop (P := P) (w := w) (A := A.in1) (K := K) (W := W) (R := wants (fun r s₂ => r = .none ∧ Q (.ref s.heap.objs.size) s₂) E) (S := s.heap.objs.size) (I := h1.objs.size) (l := l) (items := items) (res := Value.none) (h0 := s.heap) hh (by simp only [Around.in1_units]; omega)
    (Nat.ne_of_lt (Nat.lt_trans hlt hS1)) (Nat.ne_of_lt hS1) (Nat.ne_of_gt hlt) hln (out _ (Nat.le_refl _)) (out _ (Nat.le_of_lt hS1)) nest ps 0 [] #[] 0 0 0
    { s with heap := h1.push { cls := .type "list_iterator", data := .fields #[.ref l, .int 0 0] }, toks := tk1 } (by rw [hsz, Nat.zero_add]) (Nat.le_refl _) (by simpa using hp) (fun b o e => k2 _ _ (hk1 _ _ (k0 _ _ e)))
    ⟨_, Heap.get?_push_size _ rfl, rfl, rfl⟩ (hl1.at fun o e => k2 _ _ e) (k2 _ _ (hk1 _ _ hS0)) (by simp [RepKV]) (by simp)
    (fun h' tk es ep a1 a2 a3 a4 => ⟨rfl, h h' tk es ep a1 a2 a3 a4⟩)
  first
    | exact wpAny_pure ⟨plainId_quiet ud_plain _, key⟩
    | exact wpAny_bind (wpAny_pure (wpAny_pure ⟨plainId_quiet ud_plain _, key⟩))
end
def dictD : List D → Option D
  | [.list ds] => (pairsD ds).map fun ps => .dict (dMerge [] ps)
  | _ => none
theorem pairsD_at {K : PySem.W.Frag} {w : World} {W : Hp} : ∀ {ds : List D} {ps : List (D × D)} {vs : List V}, pairsD ds = some ps → RepL K w W ds vs → ps.length = ds.length ∧ ∀ (j : Nat) (p : D × D), ps[j]? = some p → ∃ (a : Addr) (x y : V), vs[j]? = some (.ref a) ∧ SqT K W a [x, y] ∧ Rep K w W p.1 x ∧ Rep K w W p.2 y ∧ keyOk p.1 = true
  | [], _, _, e, _ => by unfold pairsD at e; cases e; exact ⟨rfl, fun j p h => by simp at h⟩
  | d :: r, _, _, e, h => by
    unfold pairsD at e
    obtain ⟨p, e1, e2⟩ := Option.bind_eq_some_iff.mp e
    obtain ⟨l, e3, e4⟩ := Option.map_eq_some_iff.mp e2
    subst e4
    simp only [RepL] at h
    obtain ⟨v, q, rfl, h1, h2⟩ := h
    obtain ⟨f1, f2⟩ := pairsD_at e3 h2
    refine ⟨by simp [f1], fun j z hz => ?_⟩
    cases j with
    | succ j =>
      obtain ⟨a, x, y, g⟩ := f2 j z (by simpa using hz)
      exact ⟨a, x, y, by simpa using g.1, g.2⟩
    | zero =>
      cases hz
      unfold pairD at e1
      split at e1
      · split at e1
        · rename_i k v c
          cases e1
          simp only [Rep, RepL] at h1
          obtain ⟨a, us, rfl, q1, x, _, rfl, r1, y, _, rfl, r2, rfl⟩ := h1
          exact ⟨a, x, y, rfl, q1, r1, r2, c⟩
        · cases e1
      · cases e1
section
variable {X : Cx} {Wx : WX}
theorem onW.dic {W H : Hp} {Q : VK} {kvs : List (D × D)} {es : Array DictEntry} {ep : Nat} {p : Addr} (h : onW X.K X.w W H (some (.dict kvs)) Q) (s : Same W H) (r : RepKV X.K X.w W kvs es.toList) (nd : (kvs.map fun p => keyD p.1).Nodup) (n : H p = none) : Q (.ref p) (upd H p (dicO p es ep)) :=
  h W _ p (Ex.junk s n) (s.free n) ⟨es, ep, upd_same, r, nd⟩ n
theorem cr_dictD (hc : X.calm = true) (hu : X.A.units + 64 < cLine) : CallR X (.type "dict") (tWn X.K X.w dictD) := by
  intro pins s σ H xs us Q I r h
  obtain ⟨W, ds, sm, rl, h⟩ := h
  unfold dictD at h
  split at h
  · rename_i ds
    simp only [RepL, Rep] at rl
    obtain ⟨v, _, rfl, ⟨a, vs, rfl, q, l⟩, rfl⟩ := rl
    obtain ⟨u, rfl, rx⟩ := vals1 r
    cases rx
    cases ep : pairsD ds with
    | none => rw [ep] at h; exact h.elim
    | some ps =>
      rw [ep] at h
      obtain ⟨f1, f2⟩ := pairsD_at ep l
      obtain ⟨its, rv, ⟨ol, n, o1, o2, o3, o4⟩, hz⟩ := I.list (.of (sm _ _ q))
      have hlen : its.toArray.size = ps.length := by rw [List.size_toArray, f1, ← l.len, rv.length]
      refine ddict (K := X.K) (W := W) (ps := ps) (I.ok.hd hc) (by omega) o1 o2 o3 o4 hlen (by rw [hlen, f1, ← l.len]; exact hz) (fun j p e => ?_) (fun d v u k r1 r2 e => Rep.key I sm r1 r2 e) fun h' tk es ep k1 k2 k3 k4 => ?_
      · obtain ⟨b, x, y, g1, g2, g3, g4, g5⟩ := f2 j p e
        obtain ⟨its2, rv2, ht, _⟩ := I.tuple (Same.sqt sm g2)
        obtain ⟨u, z, rfl, ru, rz⟩ := vals2 rv2
        obtain ⟨w0, ew, rw0⟩ := rv.get g1
        cases rw0
        exact ⟨b, u, z, x, y, by simpa using ew, ht, ru, g3, rz, g4, g5⟩
      · have hs : (s.heap.objs.size == sysModules) = false := beq_eq_false_iff_ne.mpr (Nat.ne_of_gt I.big)
        have hsz : es.size ≤ sizeLine := by
          have h1 := k3.len
          rw [Array.length_toList] at h1
          have h2 := dMerge_len ps []
          rw [List.length_nil, Nat.zero_add, f1, ← l.len] at h2
          omega
        exact ⟨.ref s.heap.objs.size, _, I.laid (t' := tk) k1 (Nat.le_refl _) (dicO_new hs hsz k2), rfl, h.dic sm k3 k4 (I.hok.fresh (Nat.le_refl _))⟩
  · exact h.elim
end
end DP
set_option Elab.async false
set_option linter.all false
set_option maxRecDepth 100000
/-! DP, part 19: sorted(d.items()). -/
namespace DP
open PySem PySem.Spec PyProof.Rows L2

mutual
theorem reads_there {h : Heap} : ∀ {v : Value} {d : PyData} {as : List Addr}, Reads h v d as → ∀ a ∈ as, a < h.objs.size
  | _, _, _, .none, _, hm => nomatch hm
  | _, _, _, .bool _, _, hm => nomatch hm
  | _, _, _, .int _ _, _, hm => nomatch hm
  | _, _, _, .str _ _, _, hm => nomatch hm
  | _, _, _, .list h1 _ _ h4, b, hm => (List.mem_cons.mp hm).elim (fun e => e ▸ Heap.lt_size h1) (readsAll_there h4 b)
  | _, _, _, .tuple _ _ _ h4, b, hm => readsAll_there h4 b hm
  | _, _, _, .dict h1 _ _ h4 h5, b, hm => (List.mem_cons.mp hm).elim (fun e => e ▸ Heap.lt_size h1) fun q => (List.mem_append.mp q).elim (readsAll_there h4 b) (readsAll_there h5 b)
theorem readsAll_there {h : Heap} : ∀ {vs : List Value} {ds : List PyData} {as : List Addr}, ReadsAll h vs ds as → ∀ a ∈ as, a < h.objs.size
  | _, _, _, .nil, _, hm => nomatch hm
  | _, _, _, .cons r t, b, hm => (List.mem_append.mp hm).elim (reads_there r b) (readsAll_there t b)
end
section
variable {X : Cx} {Wx : WX}
/-- e.items() -/
def tItems (te : TE) : TE := fun σ H Q => te σ H fun x H1 => ∃ a es ep, x = .ref a ∧ H1 a = some (dicO a es ep) ∧ ∀ p, H1 p = none → Q (.ref p) (upd H1 p (L2.DX.itemsO p a))
theorem pe_items {o : Expr} {apos cpos : Pos} {te : TE} (ho : PE X o te) (hbase : attributeBase o "items" X.env (eval o X.env) = eval o X.env := by rfl) (hline : (apos.endLine == cpos.line) = true := by rfl) : PE X (.Call (.Attribute o "items" apos) [] [] cpos) (tItems te) := by
  refine ⟨fun pins s σ H Q I h => ?_⟩
  refine wpAny_Call_method0_late hbase hline (thn (ho.run pins s σ H _ I h) fun u s1 ⟨x, H1, I1, r1, a, es, ep, ex, hH, q⟩ => ?_)
  subst ex
  obtain rfl : u = Value.ref a := r1
  obtain ⟨⟨h1, h2, h3⟩, _⟩ := I1.hok a _ hH
  refine ⟨"dict", _, PySem.F.plainAttrs_dict, PySem.F.slot_dict_items, PySem.F.type_dict_items, dobj_type h3, fun b e => ?_, Calls.callWith_builtin rfl (PySem.evalArgs_none ?_)⟩
  · cases e
    exact ⟨_, h3, rfl⟩
  · refine DT.callItems (es := es) (ep := ep) h1 ⟨_, h3, ⟨rfl, rfl, rfl⟩, rfl⟩ ?_
    exact ⟨.ref s1.heap.objs.size, _, I1.laid (t' := s1.toks) (fun b u e => Heap.get?_push_of_some _ e) (Nat.le_refl _) (L2.DX.itemsO_ok (Heap.get?_push_size _ rfl)), rfl, q _ (I1.hok.fresh (Nat.le_refl _))⟩
def pairT (p : D × D) : D := .tuple [p.1, p.2]
def sortItemsD : D → Option D
  | .dict kvs => if srtOk (kvs.map pairT) = true then some (.list (sortL (kvs.map pairT))) else none
  | _ => none
/-- sorted(v), v the items of a dict -/
def rSortItems (X : Cx) : List V → Hp → VK → Prop := fun vs H Q => ∃ W p a es ep kvs, vs = [.ref p] ∧ H p = some (L2.DX.itemsO p a) ∧ H a = some (dicO a es ep) ∧ Same W H ∧ RepKV X.K X.w W kvs es.toList ∧ srtOk (kvs.map pairT) = true ∧
  onW X.K X.w W H (some (.list (sortL (kvs.map pairT)))) Q
set_option maxHeartbeats 2000000 in
theorem cr_sortItems (hc : X.calm = true) (hu : X.A.units + 64 < cLine) : CallR X (.builtin "sorted") (rSortItems X) := by
  intro pins s σ H xs us Q I r h
  obtain ⟨W, p, a, es, ep, kvs, rfl, hp, ha, sm, kv, ok, q⟩ := h
  obtain rfl := Vals.ref1 r
  have view : s.heap.IsItemsView p a := (show ObjOk X.prog X.w H s.heap p (L2.DX.itemsO p a) from I.hok p _ hp).1
  obtain ⟨⟨d1, d2, d3⟩, _⟩ := I.hok a _ ha
  refine DT.sortedI (es := es) (ep := ep) (I.ok.hd hc) view ⟨_, d3, ⟨rfl, rfl, rfl⟩, rfl⟩ d2 fun h' tk as hk hlt hl hG => ?_
  have lkv : kvs.length = es.size := by rw [← Array.length_toList, kv.len]
  have nd : as.Nodup := List.Pairwise.imp (fun h => Nat.ne_of_lt h) hG.rise
  -- what was made
  have made : ∀ (j : Nat) (b : Addr), as[j]? = some b → ∃ pr x y, ∃ u z : Value, kvs[j]? = some pr ∧ RelV x u ∧ RelV y z ∧ Rep X.K X.w W pr.1 x ∧ Rep X.K X.w W pr.2 y ∧ h'.get? b = some { cls := .type "tuple", data := .seq #[u, z] } := by
    intro j b hj
    obtain ⟨e, he, hg⟩ := hG.pairs j b hj
    obtain ⟨k, v, q1, _, ⟨x, q2, q3⟩, ⟨y, q4, q5⟩⟩ := kv.at (j := j) (e := e) (by rw [Array.getElem?_toList]; exact he)
    exact ⟨(k, v), x, y, e.key, e.val, q1, q2, q4, q3, q5, hg⟩
  have hob : (h'.push { cls := .type "list", data := .seq (as.map Value.ref).toArray }).get? h'.objs.size = some (seqObj "list" (as.map Value.ref).toArray 0) := Heap.get?_push_size _ rfl
  have kb : ∀ b o, s.heap.get? b = some o → (h'.push { cls := .type "list", data := .seq (as.map Value.ref).toArray }).get? b = some o := fun b o e => Heap.get?_push_of_some _ (hk b o e)
  have ne0 : ∀ b o, h'.get? b = some o → b ≠ h'.objs.size := fun b o e => Nat.ne_of_lt (Heap.lt_size e)
  have ka : ∀ b o, h'.get? b = some o → (h'.push { cls := .type "list", data := .seq (as.map Value.ref).toArray }).get? b = some o := fun b o e => Heap.get?_push_of_some _ e
  generalize hh2 : h'.push { cls := .type "list", data := .seq (as.map Value.ref).toArray } = h2 at hob kb ka ⊢
  have lz : (as.zip (kvs.map pairT)).map (·.2) = kvs.map pairT := List.map_snd_zip (by rw [List.length_map, lkv, hl]; exact Nat.le_refl _)
  have lf : (as.zip (kvs.map pairT)).map (·.1) = as := List.map_fst_zip (by rw [List.length_map, lkv, hl]; exact Nat.le_refl _)
  have inz : ∀ z ∈ as.zip (kvs.map pairT), ∃ (j : Nat) (pr : D × D), as[j]? = some z.1 ∧ kvs[j]? = some pr ∧ z.2 = pairT pr := fun z hz => by
    obtain ⟨j, hj⟩ := List.mem_iff_getElem?.mp hz
    obtain ⟨j1, j2⟩ := List.getElem?_zip_eq_some.mp hj
    rw [List.getElem?_map] at j2
    obtain ⟨pr, e1, e2⟩ := Option.map_eq_some_iff.mp j2
    exact ⟨j, pr, j1, e1, e2.symm⟩
  have each : ∀ l : List (Addr × D), (∀ z ∈ l, z ∈ as.zip (kvs.map pairT)) → PySem.W.EachIs (fun (v : Value) (b : Addr × D) => v = .ref b.1) (l.map fun z => Value.ref z.1) l ∧
      PySem.W.EachIs (fun v b => ∃ ad, Reads h2 v b.2 ad ∧ h'.objs.size ∉ ad) (l.map fun z => Value.ref z.1) l := by
    intro l
    induction l with
    | nil => exact fun _ => ⟨.nil, .nil⟩
    | cons z l ih =>
      intro hz
      obtain ⟨a1, a2⟩ := ih fun r hr => hz r (List.mem_cons_of_mem _ hr)
      obtain ⟨j, pr, j1, j2, j3⟩ := inz z (hz z List.mem_cons_self)
      obtain ⟨pr', x, y, u, w', m1, m2, m3, m4, m5, m6⟩ := made j z.1 j1
      rw [j2] at m1
      cases m1
      obtain ⟨b1, rd1⟩ := Rep.reads I sm _ _ _ m4 m2
      obtain ⟨b2, rd2⟩ := Rep.reads I sm _ _ _ m5 m3
      have rd : Reads h2 (.ref z.1) z.2 (b1 ++ (b2 ++ [])) := by
        rw [j3]
        exact .tuple (ka _ _ m6) rfl rfl (.cons (PyProof.Rows.Reads.keeps kb rd1) (.cons (PyProof.Rows.Reads.keeps kb rd2) .nil))
      refine ⟨.cons rfl a1, .cons ⟨_, rd, fun hm => ?_⟩ a2⟩
      have : h'.objs.size < s.heap.objs.size := by
        rcases List.mem_append.mp hm with q | q
        · exact reads_there rd1 _ q
        · rcases List.mem_append.mp q with q | q
          · exact reads_there rd2 _ q
          · cases q
      omega
  obtain ⟨ea, eb⟩ := each _ fun z hz => hz
  have evs : (as.zip (kvs.map pairT)).map (fun z => Value.ref z.1) = as.map Value.ref := by
    conv => rhs; rw [← lf]
    rw [List.map_map]
    rfl
  rw [evs] at ea eb
  have al : PySem.W.AllAlike ((as.zip (kvs.map pairT)).map fun z => z.2) := by
    have := srtOk_alike ok
    rw [List.map_id] at this
    rw [lz]
    exact this
  have so : PySem.W.Sortable ((as.zip (kvs.map pairT)).map fun z => z.2) := by
    have := srtOk_sortable ok
    rw [List.map_id] at this
    rw [lz]
    exact this
  have hzl : (as.zip (kvs.map pairT)).length ≤ sizeLine := by
    have := congrArg List.length lf
    rw [List.length_map] at this
    omega
  refine PySem.W.list_sort_data (s := { s with heap := h2, toks := tk }) (bs := as.zip (kvs.map pairT)) (enc := fun z => z.2) (R := fun v b => v = .ref b.1) hob ea eb al so hzl (fun b hb => ?_) fun out hlo he => ?_
  · have hm : b.2 ∈ kvs.map pairT := by rw [← lz]; exact List.mem_map.mpr ⟨b, hb, rfl⟩
    have h60 := srtOk_depth ok _ hm
    show X.A.units + 1 + 1 + b.2.depth < cLine
    omega
  · have eo : out = ((as.zip (kvs.map pairT)).mergeSort (PySem.W.dataLe false fun z => z.2)).map fun z => Value.ref z.1 := by
      have : ∀ {vs : List Value} {L2 : List (Addr × D)}, PySem.W.EachIs (fun (v : Value) (b : Addr × D) => v = .ref b.1) vs L2 → vs = L2.map fun z => Value.ref z.1 := by
        intro vs L2 h
        induction h with
        | nil => rfl
        | cons e _ ih => rw [List.map_cons, ← ih, e]
      exact this he
    subst eo
    generalize hzs : (as.zip (kvs.map pairT)).mergeSort (PySem.W.dataLe false fun z => z.2) = zs
    have pz : zs.Perm (as.zip (kvs.map pairT)) := by rw [← hzs]; exact List.mergeSort_perm _ _
    have es2 : zs.map (·.2) = sortL (kvs.map pairT) := by
      rw [← hzs]
      refine (List.map_mergeSort (r := PySem.W.dataLe false fun z : Addr × D => z.2) (s := dLe) (f := fun z : Addr × D => z.2) (l := as.zip (kvs.map pairT)) (fun a _ b _ => rfl)).trans ?_
      rw [lz]
      rfl
    have kF : ∀ b o, b ≠ h'.objs.size → h2.get? b = some o → (sortedHeap h2 h'.objs.size (as.map Value.ref) (zs.map fun z => Value.ref z.1).toArray).get? b = some o := fun b o hb e => (PyProof.Rows.sortedHeap_old hb (Heap.lt_size e)).trans e
    have kS : ∀ b o, s.heap.get? b = some o → (sortedHeap h2 h'.objs.size (as.map Value.ref) (zs.map fun z => Value.ref z.1).toArray).get? b = some o := fun b o e => kF b o (ne0 _ _ (hk b o e)) (kb b o e)
    obtain ⟨eF, heF⟩ := PyProof.Rows.sortedHeap_at (vs := as.map Value.ref) (out := (zs.map fun z => Value.ref z.1).toArray) hob
    have I1 : Inv X pins σ H { s with heap := sortedHeap h2 h'.objs.size (as.map Value.ref) (zs.map fun z => Value.ref z.1).toArray, toks := tk } := I.kept (t' := tk) kS
    have hn0 : H h'.objs.size = none := I.hok.fresh (Nat.le_of_lt hlt)
    have hlen : (zs.map fun z => V.ref z.1).length ≤ sizeLine := by rw [List.length_map, pz.length_eq]; exact hzl
    have rv : Vals (zs.map fun z => V.ref z.1) (zs.map fun z => Value.ref z.1) := vals_maps (fun z : Addr × D => V.ref z.1) (fun z => Value.ref z.1) zs fun _ _ => rfl
    have I2 : Inv X pins σ (upd H h'.objs.size (.lst (zs.map fun z => V.ref z.1))) { s with heap := sortedHeap h2 h'.objs.size (as.map Value.ref) (zs.map fun z => Value.ref z.1).toArray, toks := tk } :=
      I1.take (h' := sortedHeap h2 h'.objs.size (as.map Value.ref) (zs.map fun z => Value.ref z.1).toArray) (t' := tk) (fun b ob _ e => e) (I.fpOk (Nat.le_of_lt hlt) hn0) (show ObjOk X.prog X.w (upd H h'.objs.size (.lst (zs.map fun z => V.ref z.1))) _ _ (.lst (zs.map fun z => V.ref z.1)) from ⟨hlen, zs.map fun z => Value.ref z.1, eF, rv, heF⟩)
    have nas : h'.objs.size ∉ as := fun z => Nat.lt_irrefl _ (hG.there z)
    -- the tuples that were made are tracked
    obtain ⟨H2, I3, g, qt⟩ := L2.DX.takeT (P := fun b vs => ∃ (j : Nat) (pr : D × D) (x y : V), as[j]? = some b ∧ kvs[j]? = some pr ∧ vs = [x, y] ∧ Rep X.K X.w W pr.1 x ∧ Rep X.K X.w W pr.2 y) I as _ I2 nd fun b hb => by
      obtain ⟨j, hj⟩ := List.mem_iff_getElem?.mp hb
      obtain ⟨pr, x, y, u, w', m1, m2, m3, m4, m5, m6⟩ := made j b hj
      have hbl : s.heap.objs.size ≤ b := Nat.le_of_lt (hG.above b hb)
      refine ⟨hbl, ?_, [x, y], ⟨j, pr, x, y, hj, m1, rfl, m4, m5⟩, fun H3 => ⟨(by rw [sizeLine_eq]; show 2 ≤ 16777216; omega), [u, w'], .cons m2 (.cons m3 .nil), ⟨_, kF _ _ (ne0 _ _ m6) (ka _ _ m6), rfl, 0, rfl⟩⟩⟩
      rw [upd_ne (ne0 _ _ m6)]
      exact I.hok.fresh hbl
    have gr : ∀ b o, H b = some o → H2 b = some o := fun b o e => g b o (by rw [upd_ne (ne_of_none e hn0)]; exact e)
    -- what is frozen of it: W and these tuples
    have frz : ∃ W2, Ex W H W2 H2 ∧ (∀ b ∈ as, W2 b = H2 b) ∧ W2 h'.objs.size = none := by
      refine ⟨fun b => if b ∈ as then H2 b else W b, ⟨fun b o e => ?_, gr, fun b o e => ?_, fun b h1 h2 => ?_⟩, fun b hb => if_pos hb, ?_⟩
      · have : b ∉ as := fun z => by
          have hbl : s.heap.objs.size ≤ b := Nat.le_of_lt (hG.above b z)
          rw [sm.free (I.hok.fresh hbl)] at e; cases e
        show (if b ∈ as then H2 b else W b) = some o
        rw [if_neg this]; exact e
      · by_cases hb : b ∈ as
        · simp only [if_pos hb] at e; exact e
        · simp only [if_neg hb] at e; exact gr _ _ (sm _ _ e)
      · by_cases hb : b ∈ as
        · exact I.hok.fresh (Nat.le_of_lt (hG.above b hb))
        · simp only [if_neg hb] at h1; exact absurd h2 h1
      · show (if h'.objs.size ∈ as then H2 h'.objs.size else W h'.objs.size) = none
        rw [if_neg nas]
        exact sm.free hn0
    obtain ⟨W2, ex2, at2, nW2⟩ := frz
    have rl : ∀ l : List (Addr × D), (∀ z ∈ l, z ∈ as.zip (kvs.map pairT)) → RepL X.K X.w W2 (l.map (·.2)) (l.map fun z => V.ref z.1) := by
      intro l
      induction l with
      | nil => exact fun _ => RepL.nil
      | cons z l ih =>
        intro hz
        refine RepL.cons ?_ (ih fun r hr => hz r (List.mem_cons_of_mem _ hr))
        obtain ⟨j, pr, j1, j2, j3⟩ := inz z (hz z List.mem_cons_self)
        have hza := List.mem_of_getElem? j1
        obtain ⟨vs, ⟨i, pr', x, y, i1, i2, rfl, i4, i5⟩, hH⟩ := qt z.1 hza
        have eij : i = j := (List.getElem?_inj (List.getElem?_eq_some_iff.mp i1).1 nd).mp (i1.trans j1.symm)
        subst eij
        rw [j2] at i2
        cases i2
        show Rep X.K X.w W2 z.2 (V.ref z.1)
        rw [j3]
        simp only [pairT, Rep, RepL]
        exact ⟨z.1, [x, y], rfl, .inl (.inl ((at2 _ hza).trans hH)), x, [y], rfl, Rep.mono ex2.ext _ _ i4, y, [], rfl, Rep.mono ex2.ext _ _ i5, rfl⟩
    refine ⟨.ref h'.objs.size, H2, I3, rfl, ?_⟩
    rw [← es2] at q
    exact q W2 _ _ ex2 nW2 ⟨_, g _ _ upd_same, rl zs fun z hz => pz.mem_iff.mp hz⟩ hn0
theorem en_sortItems {e : Expr} {f : XF} {p p2 q pos : Pos} (hc : X.calm = true) (hu : X.A.units + 64 < cLine) (hg : Gl X "sorted") (hm : X.mg "sorted" = none) (he : EX X Wx e f)
    (hbase : attributeBase e "items" X.env (eval e X.env) = eval e X.env := by rfl) (hline : (p2.endLine == q.line) = true := by rfl)
    (hs : starEach [.Call (.Attribute e "items" p2) [] [] q] X.env = (false, eval (.Call (.Attribute e "items" p2) [] [] q) X.env) :: starEach [] X.env := by rfl) :
    EN X Wx (.Call (.Name "sorted" p) [.Call (.Attribute e "items" p2) [] [] q] [] pos) (x1 sortItemsD f) := by
  refine PE.wk (pe_callB (cr_sortItems hc hu) hg hm (by rfl) (pa_cons (pe_items he hbase hline) pa_nil hs) (by decide) (by decide) hs (by rfl)) ?_
  rintro σ H Q ⟨ρ, W, env, A, S, h⟩
  refine tN_then S h fun d W1 H1 env1 A1 v S1 F1 r1 h1 => ?_
  simp only at h1
  unfold sortItemsD at h1
  split at h1
  · rename_i d' kvs
    simp only [Rep] at r1
    obtain ⟨a, es, ep, rfl, q1, kv, nd⟩ := r1
    split at h1
    · rename_i ok
      have h2 := onW_of S1 h1
      refine ⟨a, es, ep, rfl, S1.sub _ _ q1, fun b hb => ?_⟩
      have e2 : Ex W1 H1 W1 (upd H1 b (L2.DX.itemsO b a)) := Ex.junk S1.sub hb
      refine ⟨W1, b, a, es, ep, kvs, rfl, upd_same, ?_, e2.sub, kv, ok, ?_⟩
      · rw [upd_ne (ne_of_none (S1.sub _ _ q1) hb)]
        exact S1.sub _ _ q1
      · intro W3 H3 p3 e3 n3 o3 z3
        have z4 : H1 p3 = none := by
          by_cases z : p3 = b
          · rw [z]; exact hb
          · rwa [upd_ne z] at z3
        exact h2 W3 H3 p3 (e2.trans e3) n3 o3 z4
    · exact h1.elim
  · exact h1.elim
end
end DP
set_option Elab.async false
set_option linter.all false
set_option maxRecDepth 100000
/-! DP, part 20: words for the printed proofs. -/
namespace DP
open PySem PySem.Spec PyProof.Rows L2

/-- what a caller has of a def that reckons F -/
structure Def0 (P : Program) (w : World) (K : PySem.W.Frag) (mg : Str → Option Value) (base : Heap) (k : Nat) (x : Str) (ps : List Str) (F : FD) : Prop where
  ex : ∃ f fd, FnG P w K mg base k f fd ps (spF K w mg ps.length F) ∧ mg x = some (.ref f) ∧ PySem.W.keepIn K (.ref f) = true ∧ Binds K fd ps []
section
variable {X : Cx} {Wx : WX} {k j : Nat} {ps : List Str} {F : FD} {x : Str} {p pos : Pos} {e : Expr} {es : List Expr} {g : AF}
theorem ex_callD (d : Def0 X.prog X.w X.K X.mg X.base k x ps F) (hr : Room j X.A) (hk : k ≤ j) (hq : X.A.guards = some []) (hg : Gl X x) (tk : Takes X Wx) (ha : EA X Wx (e :: es) g)
    (hdb : (x == ("__debug__" : Str)) = false := by decide) (he : starEach (e :: es) X.env = (false, eval e X.env) :: starEach es X.env := by rfl) (hpl : (backTo pos (starEach es X.env)).any (·.1) = false := by rfl) :
    EX X Wx (.Call (.Name x p) (e :: es) [] pos) (xCall ps.length F g) := by
  obtain ⟨f, fd, G, h1, h2, h3⟩ := d.ex
  exact ex_callG G (hr.mono hk) hq hg h1 h2 h3 tk ha hdb he hpl
theorem ex_int {i : Int} {j : Nat} : EX X Wx (.Constant (.int i) j pos) (xConst (.int i)) := ex_const pe_int fun W => by simp only [Rep]
theorem ex_str {y : Str} {j : Nat} : EX X Wx (.Constant (.str y) j pos) (xConst (.str y)) := ex_const pe_str fun W => by simp only [Rep]
theorem ex_none {j : Nat} : EX X Wx (.Constant .none j pos) (xConst .none) := ex_const pe_non fun W => by simp only [Rep]
theorem ex_bl {b : Bool} {j : Nat} : EX X Wx (.Constant (.bool b) j pos) (xConst (.bool b)) := ex_const pe_bl fun W => by simp only [Rep]
end
section
variable {X : Cx} {Wx : WX} {a b c : Expr} {f g k : XF} {pos : Pos} {op op' : CmpOp} {o o' : D → D → Option D}
theorem tst_read {σ : L2.St} {H : Hp} {Q : Bool → Hp → Prop} (h : tT X Wx (tst f) σ H Q) : tX X Wx f σ H fun v H' => ∃ k, v = .bl k ∧ Q k H' := by
  obtain ⟨ρ, W, env, A, S, h⟩ := h
  refine tG_then S h fun d W1 H1 env1 A1 v S1 F1 r1 h1 => ?_
  unfold asB at h1
  split at h1
  · rename_i b e
    simp only at e
    subst e
    simp only [Rep] at r1
    exact ⟨b, r1, h1 W1 H1 A1 b S1 (Fr.refl _ _ _) rfl⟩
  · exact h1.elim
theorem et_cmp (ho : OpR X (compareOp op) (tV2 X.K X.w o)) (ha : EX X Wx a f) (hb : EX X Wx b g) (hm : behindInMarks op b = false := by first | exact nomark _ | rfl) : ET X Wx (.Compare a [op] [b] pos) (tst (x2 o f g)) :=
  PT.wk (pt_cmpR ho ha hb hm) fun σ H Q h => x2_read (fun _ _ _ _ q => q) (tst_read h)
theorem chain_read {σ : L2.St} {H : Hp} {Q : VK} (h : tX X Wx (xChain o o' f g k) σ H Q) : tChain (tV2 X.K X.w o) (tV2 X.K X.w o') (tX X Wx f) (tX X Wx g) (tX X Wx k) σ H Q := by
  obtain ⟨ρ, W, env, A, S, h⟩ := h
  unfold xChain at h
  refine tG_then S h fun d W1 H1 env1 A1 v S1 F1 r1 h1 => ?_
  refine tG_then S1 h1 fun d2 W2 H2 env2 A2 u S2 F2 r2 h2 => ?_
  simp only at h2
  refine ⟨W2, d, d2, S2.sub, Rep.mono F2.ext d v r1, r2, ?_⟩
  cases eo : o d d2 with
  | none => rw [eo] at h2; exact h2.elim
  | some z =>
    rw [eo] at h2
    intro W3 H3 v3 e3 r3
    simp only [liftO_some, Out.bind_ok] at h2
    unfold asB at h2
    cases z with
    | bool q =>
      simp only [Rep] at r3
      subst r3
      refine ⟨q, rfl, ?_⟩
      simp only [Out.bind_ok] at h2
      have S3 := S2.ex e3
      cases q with
      | false =>
        simp only [Bool.false_eq_true, if_false] at h2 ⊢
        exact h2 W3 H3 A2 _ S3 (e3.fr _) rfl
      | true =>
        simp only [if_true] at h2 ⊢
        have h3 := onG_fr h2 (e3.fr (ownd A2))
        refine tG_then S3 h3 fun d4 W4 H4 env4 A4 v4 S4 F4 r4 h4 => ?_
        have h5 : onX X Wx ρ σ W4 H4 A4 (liftO (o' d2 d4) env4) Q := by
          simp only at h4
          cases eo' : o' d2 d4 with
          | none => rw [eo'] at h4; exact h4.elim
          | some z => rw [eo'] at h4; exact h4
        exact ⟨W4, d2, d4, S4.sub, Rep.mono (e3.ext.trans F4.ext) d2 u r2, r4, onV_of S4 h5⟩
    | _ => exact h2.elim
theorem et_chain (ho : OpR X (compareOp op) (tV2 X.K X.w o)) (ho' : OpR X (compareOp op') (tV2 X.K X.w o')) (ha : EX X Wx a f) (hb : EX X Wx b g) (hc : EX X Wx c k)
    (hm : lastMarks [op, op'] [b, c] = false := by with_unfolding_all rfl) : ET X Wx (.Compare a [op, op'] [b, c] pos) (tst (xChain o o' f g k)) :=
  PT.wk (pt_chain ho ho' ha hb hc hm) fun σ H Q h => chain_read (tst_read h)
end
end DP
set_option Elab.async false
set_option linter.all false
set_option maxRecDepth 100000
/-! DP, part 21: defs of the script; the law's own call. -/
namespace DP
open PySem PySem.Spec PyProof.Rows L2

abbrev FS := List Int → Out D
/-- the promise of a def of the script alone -/
def spS (K : PySem.W.Frag) (w : World) (mg : Str → Option Value) (F : FS) : Sp := fun vs H Q E => ∃ W a ns, vs = [V.ref a] ∧ Same W H ∧ SqL K W a (ns.map V.int) ∧ onF K w mg W H (F ns) Q E
def runS (n : Nat) (B : SF) (ns : List Int) : Out D := match B (.sc ns :: List.replicate (n - 1) .no) with
  | .ok (.rt d, _) => .ok d
  | .ok (.nx, _) => .ok .none
  | .ok _ => .bad
  | .exc c d e => .exc c d e
  | .bad => .bad
def xCallS (i : Nat) (F : FS) : XF := fun env => match env[i]? with
  | some (.sc ns) => (match F ns with
    | .ok d => .ok (d, env)
    | .exc c d _ => .exc c d env
    | .bad => .bad)
  | _ => .bad
structure DefS (P : Program) (w : World) (K : PySem.W.Frag) (mg : Str → Option Value) (base : Heap) (k : Nat) (x : Str) (ps : List Str) (F : FS) : Prop where
  ex : ∃ f fd, FnG P w K mg base k f fd ps (spS K w mg F) ∧ mg x = some (.ref f) ∧ PySem.W.keepIn K (.ref f) = true ∧ Binds K fd ps []
section
variable {P : Program} {w : World} {K : PySem.W.Frag} {mg : Str → Option Value} {base : Heap} {k : Nat} {f : Addr} {fd : FuncData} {ps N : List Str}
theorem SR.startS {ρ : Nat → Addr} {W H : Hp} {a : Addr} {ns : List Int} (s : Same W H) (h : SqL K W a (ns.map V.int)) (hN : 1 ≤ N.length) :
    SR K w ρ W H (.sc ns :: List.replicate (N.length - 1) .no) (L2.start N [.ref a]) (List.replicate (L2.start N [.ref a]).length []) := by
  refine ⟨s, ?_, by simp, fun i sl v l h1 h2 h3 => ?_, fun i j l m p h1 h2 h3 _ => absurd ⟨i, l, h1, h3⟩ (own_none p)⟩
  · unfold L2.start
    simp only [List.length_append, List.length_map, List.length_replicate, List.length_cons, List.length_nil]
    omega
  · rw [List.getElem?_replicate] at h3
    split at h3
    · cases h3
      unfold L2.start at h2
      cases i with
      | zero =>
        cases h1
        cases h2
        exact ⟨rfl, a, rfl, h⟩
      | succ i =>
        rw [List.getElem?_cons_succ, List.getElem?_replicate] at h1
        split at h1 <;> cases h1
        exact rfl
    · cases h3
/-- a def of the script -/
theorem fnG_script {x qual : Str} {st : Stmt} {B : SF} (Fn : Fun K x qual st f fd) (S : FnScope N ps (defScope st)) (hp : ps.length = 1) (hN : 1 ≤ N.length)
    (body : ∀ (cdv : Value) (A : Around) (outer : List Env) (s : Shared) (H : Hp) (E : XK), Room k (A.deeper (envOfC qual (defScope st) s.heap.objs.size f cdv)) → A.guards = some [] →
      EB (cxOf (L2.CX P w) P w K mg base N qual (defScope st) f cdv A outer s H E) (fun cls d _ H => E cls d H) (defBody st) B) : FnG P w K mg base (k + 1) f fd ps (spS K w mg (runS N.length B)) := by
  refine fnG_of Fn S (fun vs H Q E h => ?_) fun cdv A outer s H vs Q E hr hg h => ⟨_, body cdv A outer s H E hr hg, ?_⟩
  · obtain ⟨W, a, ns, rfl, _⟩ := h
    exact hp.symm
  · obtain ⟨W, a, ns, rfl, sm, sq, h⟩ := h
    refine ⟨fun _ => 0, W, _, _, SR.startS sm sq hN, ?_⟩
    unfold runS at h
    have ex : ∀ {W' H' : Hp} {A' : List (List Addr)}, Same W' H' → Fr W H (ownd (List.replicate (L2.start N [V.ref a]).length [])) W' H' (ownd A') → Ex W H W' H' := fun s F => F.ex own_none s
    cases eb : B (.sc ns :: List.replicate (N.length - 1) .no) with
    | bad => rw [eb] at h; exact h.elim
    | exc c d e =>
      rw [eb] at h
      exact fun C W' H' A' σ' dx v g S' F' x r' => h C W' H' dx v g (ex S'.sub F') x r'
    | ok q =>
      obtain ⟨fl, env'⟩ := q
      rw [eb] at h
      cases fl with
      | nx => exact fun W' H' A' σ' S' F' => h W' H' _ (ex S'.sub F') rfl
      | rt d => exact fun W' H' A' σ' S' F' v rv => h W' H' v (ex S'.sub F') rv
      | bk => exact h.elim
      | ct => exact h.elim
end
section
variable {X : Cx} {Wx : WX} {k j i : Nat} {ps : List Str} {F : FS} {x y : Str} {p p2 pos : Pos}
theorem ex_callS (d : DefS X.prog X.w X.K X.mg X.base k x ps F) (hr : Room j X.A) (hk : k ≤ j) (hq : X.A.guards = some []) (hg : Gl X x) (tk : Takes X Wx) (h : PE X (.Name y p2) (tVar i))
    (hdb : (x == ("__debug__" : Str)) = false := by decide) (he : starEach [.Name y p2] X.env = (false, eval (.Name y p2) X.env) :: starEach [] X.env := by rfl) (hpl : (backTo pos (starEach [] X.env)).any (·.1) = false := by rfl) :
    EX X Wx (.Call (.Name x p) [.Name y p2] [] pos) (xCallS i F) := by
  obtain ⟨f, fd, G, h1, h2, h3⟩ := d.ex
  refine PE.wk (pe_callG (E := fun σ cls d H => Wx cls d σ H) G (hr.mono hk) hq hg h1 h2 h3 (fun σ => passAt tk σ) (pa_cons h pa_nil he) hdb he hpl) ?_
  rintro σ H Q ⟨ρ, W, env, A, S, h⟩
  unfold xCallS at h
  cases e : env[i]? with
  | none => rw [e] at h; exact h.elim
  | some sl =>
    rw [e] at h
    obtain ⟨v, l, g1, g2, g3⟩ := S.at e
    cases sl with
    | sc ns =>
      obtain ⟨_, a, rfl, q⟩ := g3
      refine ⟨.ref a, g1, W, a, ns, rfl, S.sub, q, ?_⟩
      simp only at h
      cases eF : F ns with
      | bad => rw [eF] at h; exact h.elim
      | ok d =>
        rw [eF] at h
        exact fun W' H' v ex r => h W' H' A v (S.ex ex) (ex.fr _) r
      | exc c d e' =>
        rw [eF] at h
        exact fun C W' H' dx v g ex hx r => h C W' H' A dx v g (S.ex ex) (ex.fr _) hx r
    | _ => exact h.elim
end

/-! ### the law's own call -/
/-- the def is called where nothing is tracked but, at most, the script -/
theorem go_law {P : Program} {w : World} {K : PySem.W.Frag} {mg mb : Str → Option Value} {k : Nat} {fa a : Addr} {fd : FuncData} {x : Str} {F : FS} {s : Shared} {vs : List Value} {ns : List Int} {H : Hp}
    (kin : K.In s.heap) (gl : s.heap.Ns mainGlobals mg) (bl : s.heap.Ns builtinsNs mb) (bb : ∀ x : Str, x ≠ "__name__" → mb x = bootBuiltins x) (lim : s.heap.NoLimit) (gens : s.gens = #[])
    (ha : s.heap.get? a = some { cls := .type "list", data := .seq vs.toArray }) (room : Room k callerA) (G : ∀ base : Heap, K.In base → base.Ns mainGlobals mg → FnG P w K mg base k fa fd [x] (spS K w mg F)) (bind : ∀ (s : Shared) (u : Value), BindsTo s fd ⟨[u], []⟩ [(x, u)])
    (good : F ns = .ok (.bool true)) (sq : SqL K H a (ns.map V.int)) (hok : HOk P w H s.heap) (only : ∀ b, H b = none ∨ ∃ o xs, H b = some (.frz o (.lst xs))) (at_ : ∀ b, H b ≠ none → b = a) (apart : H a ≠ none → K.lookup a = none) :
    codeAny (model P w) callerA (.call (.ref fa) ⟨[.ref a], []⟩) (fun r s' => r = .ok (.ret (.bool true)) ∧ OldK s.heap s'.heap ∧ s'.os = s.os ∧ AllBare s'.gens) s := by
  -- what is not the script is the ground
  have ground : ∀ {b : Addr} {o : Obj}, s.heap.get? b = some o → (b = a → H a = none) → (hidT s.heap H).get? b = some o := fun {b o} e h => hidT_get e (by
    cases q : H b with
    | none => rfl
    | some u =>
      have z : b = a := at_ b (by rw [q]; exact fun z => nomatch z)
      have z2 := h z
      rw [← z, q] at z2
      cases z2)
  have names : ∀ {b : Addr} {m : Str → Option Value}, s.heap.Ns b m → (hidT s.heap H).Ns b m := by
    rintro b m ⟨o, es, ep, e, d, r⟩
    refine ⟨o, es, ep, ground e fun z => ?_, d, r⟩
    subst z
    rw [ha] at e
    cases e
    cases (show Data.seq vs.toArray _ = Data.dict es ep from d)
  have kin' : K.In (hidT s.heap H) := fun b o e => ground (kin b o e) fun z => by
    subst z
    cases q : H b with
    | none => rfl
    | some u =>
      have := apart (by rw [q]; exact fun z => nomatch z)
      rw [e] at this
      cases this
  obtain ⟨mc, l1, l2⟩ := lim
  have e0 : Env0 P w K mg (hidT s.heap H) callerA [] s H := ⟨rfl, ⟨kin', names gl, ⟨mb, names bl, bb⟩, ⟨mc, names l1, l2⟩⟩, fun b o e => of_hidT e, Nat.le_of_eq (hidT_size _ _), trivial, fun b hb => (nomatch (show b ∈ ([] : List Addr) from hb)), hok, AllBare.of_eq gens⟩
  refine codeAny_mono ((G _ kin' (names gl)).go callerA [] s H ⟨[.ref a], []⟩ [.ref a] [.ref a] (fun v _ => v = .bl true) (fun _ _ _ => False) room rfl e0 (bind s (.ref a)) (.cons rfl .nil) ⟨H, a, ns, rfl, Same.refl _, sq, ?_⟩) ?_
  · rw [good]
    exact fun W' H' v _ r => r
  · intro r s' h
    cases r with
    | error e =>
      obtain ⟨_, _, _, _, _, _, _, _, _, _, _, _, z⟩ := h
      exact z.elim
    | ok fl =>
      cases fl with
      | ret u =>
        obtain ⟨v, H', os, bare, un, hok', rv, q⟩ := h
        have q : v = .bl true := q
        subst q
        cases (show u = Value.bool true from rv)
        refine ⟨rfl, OldK.of_keep fun b o e => ?_, os, bare⟩
        rcases only b with z | ⟨ob, xs, z⟩
        · exact un.keep b o e z (fun z => nomatch (show b ∈ ([] : List Addr) from z)) (fun z => nomatch z)
        · obtain ⟨e1, _⟩ := hok b _ z
          obtain ⟨e2, _⟩ := hok' b _ (un.frzs b ob _ z)
          rw [e] at e1
          cases e1
          exact e2
      | next => exact h.elim
      | brk => exact h.elim
      | cont => exact h.elim
/-- THE LAW, from what its def reckons at every script -/
theorem walk_law {l : PySem.W.OpenLaw} {n k : Nat} {q : Program} {loose : List Str} {XP : (Str → Option Value) → Heap → Prop} {YP : World → Heap → Prop} {d : DefRec} {K : Params → PySem.W.Frag} {F : FS} {x : Str}
    (hn : l.most = some n) (hn2 : n ≤ sizeLine) (hdf : d.params.defaults = []) (hr : Room k callerA) (hY : ∀ (w : World) (h : Heap), YP w h → (K w.params).In h)
    (go : ∀ (w : World) (mg : Str → Option Value) (fa : Addr) (h : Heap), (K w.params).In h → h.Ns mainGlobals mg → mg d.name = some (.ref fa) →
      ∃ fd : FuncData, (∀ (s : Shared) (u : Value), BindsTo s fd ⟨[u], []⟩ [(x, u)]) ∧ ∀ base : Heap, (K w.params).In base → base.Ns mainGlobals mg → FnG l.prog w (K w.params) mg base k fa fd [x] (spS (K w.params) w mg F))
    (good : ∀ ns : List Int, ns.length ≤ n → F ns = .ok (.bool true)) : PySem.W.WalkO q loose XP YP l.row.toRowW d [] (fun f vs => PySem.call f vs) := by
  refine Att.attach_call hn hdf fun w s₀ s mg mb fa o pm cd doc a vs ns G Y ho hd hcd hmg hobj hints hlen hg => ?_
  have kin := hY w _ Y
  obtain ⟨fd, bind, run⟩ := go w mg fa _ kin G.T.g hmg
  have rv := vals_ints hints
  have hz : ns.length ≤ sizeLine := Nat.le_trans hlen hn2
  cases hk : (K w.params).lookup a with
  | some ob =>
    -- the script is an object of the module's
    have e := kin a ob hk
    rw [hobj] at e
    cases e
    refine go_law (H := fun _ => none) kin G.T.g G.T.b G.T.builtins G.T.nolimit hg hobj hr run bind (good ns hlen) (.inr ⟨_, vs.toArray, _, hk, rfl, rfl, rfl, by rw [List.size_toArray, ← rv.length, List.length_map]; exact hz, by simpa using rv⟩) (fun b u z => nomatch z) (fun _ => .inl rfl) (fun b z => absurd rfl z) fun z => absurd rfl z
  | none =>
    refine go_law (H := upd (fun _ => none) a (.frz { cls := .type "list", data := .seq vs.toArray } (.lst (ns.map V.int)))) kin G.T.g G.T.b G.T.builtins G.T.nolimit hg hobj hr run bind (good ns hlen) (.inl (.inr ⟨_, upd_same⟩)) (fun b u z => ?_) (fun b => ?_) (fun b z => ?_) fun _ => hk
    · by_cases hb : b = a
      · subst hb
        rw [upd_same] at z
        cases z
        exact ⟨hobj, by rw [List.length_map]; exact hz, vs, _, rv, hobj⟩
      · rw [upd_ne hb] at z
        cases z
    · by_cases hb : b = a
      · subst hb
        exact .inr ⟨_, _, upd_same⟩
      · exact .inl (upd_ne hb)
    · by_cases hb : b = a
      · exact hb
      · exact absurd (upd_ne hb) z
end DP
set_option Elab.async false
set_option linter.all false
set_option maxRecDepth 100000
/-! DP, part 22: plain laws of the words. -/
namespace DP
open PySem PySem.Spec PyProof.Rows L2

section
variable {f g : SF} {env e1 : Ev} {d : D} {i : Nat}
theorem seq_nx (h : f env = .ok (.nx, e1)) : sSeq f g env = g e1 := by unfold sSeq; rw [h]; rfl
theorem seq_rt {e1 : Ev} (h : f env = .ok (.rt d, e1)) : sSeq f g env = .ok (.rt d, e1) := by unfold sSeq; rw [h]; rfl
theorem for_inv {g : GF} {body : SF} (I : Nat → Ev → Prop) : ∀ (xs : List D) (n : Nat) (env : Ev), (∀ i x env, xs[i]? = some x → I (n + i) env → ∃ e1 e2, g x env = some e1 ∧ body e1 = .ok (.nx, e2) ∧ I (n + i + 1) e2) → I n env →
    ∃ e2, forL g body xs env = .ok (.nx, e2) ∧ I (n + xs.length) e2
  | [], n, env, _, h => ⟨env, rfl, h⟩
  | x :: xs, n, env, step, h => by
    obtain ⟨e1, e2, h1, h2, h3⟩ := step 0 x env rfl h
    obtain ⟨e3, h4, h5⟩ := for_inv I xs (n + 1) e2 (fun i y env hy hi => by
      obtain ⟨a, b, c1, c2, c3⟩ := step (i + 1) y env (by simpa using hy) (by rw [show n + (i + 1) = n + 1 + i by omega]; exact hi)
      exact ⟨a, b, c1, c2, by rw [show n + 1 + i + 1 = n + (i + 1) + 1 by omega]; exact c3⟩) h3
    refine ⟨e3, ?_, by rw [List.length_cons, show n + (xs.length + 1) = n + 1 + xs.length by omega]; exact h5⟩
    unfold forL
    rw [h1]
    simp only [h2, Out.bind_ok, h4]
/-- a comprehension whose elements change no slot -/
theorem cmp_all {g : GF} {el : XF} {vs : List Nat} {env : Ev} {f : D → D} {e1 : D → Ev} : ∀ xs : List D, (∀ x ∈ xs, g x env = some (e1 x) ∧ el (e1 x) = .ok (f x, e1 x) ∧ wipeE (e1 x) vs = env) → cmpL g tTrue el vs xs env = .ok (xs.map f, env)
  | [], _ => rfl
  | x :: xs, h => by
    obtain ⟨h1, h2, h3⟩ := h x List.mem_cons_self
    unfold cmpL
    rw [h1]
    simp only [tTrue, Out.bind_ok, if_true, h2, h3, cmp_all xs fun y hy => h y (List.mem_cons_of_mem _ hy), List.map_cons]
theorem cmp_if {g : GF} {ts : TF} {el : XF} {vs : List Nat} {env : Ev} {f : D → D} {b : D → Bool} {e1 : D → Ev} : ∀ xs : List D, (∀ x ∈ xs, g x env = some (e1 x) ∧ ts (e1 x) = .ok (b x, e1 x) ∧ (b x = true → el (e1 x) = .ok (f x, e1 x)) ∧ wipeE (e1 x) vs = env) →
    cmpL g ts el vs xs env = .ok ((xs.filter b).map f, env)
  | [], _ => rfl
  | x :: xs, h => by
    obtain ⟨h1, h2, h3, h4⟩ := h x List.mem_cons_self
    have ih := cmp_if xs fun y hy => h y (List.mem_cons_of_mem _ hy)
    unfold cmpL
    rw [h1]
    cases hb : b x with
    | true => simp only [h2, Out.bind_ok, hb, if_true, h3 hb, h4, ih, List.filter_cons, List.map_cons]
    | false => simp only [h2, Out.bind_ok, hb, Bool.false_eq_true, if_false, h4, ih, List.filter_cons]
end

theorem runS_rt {n : Nat} {B : SF} {ns : List Int} {d : D} {e : Ev} (h : B (.sc ns :: List.replicate (n - 1) .no) = .ok (.rt d, e)) : runS n B ns = .ok d := by unfold runS; rw [h]
theorem runB_rt {n : Nat} {B : SF} {ds : List D} {d : D} {e : Ev} (h : B (ds.map .fz ++ List.replicate (n - ds.length) .no) = .ok (.rt d, e)) : runB n B ds = .ok d := by unfold runB; rw [h]
/-! ### one step each -/
theorem bind_congr {α β : Type} {a b : Out α} {f : α → Out β} (h : a = b) : a.bind f = b.bind f := by rw [h]
section
variable {f g k : XF} {c t u : TF} {p q : SF} {l : AF} {env : Ev} {d : D} {i j n : Nat} {o o' : D → D → Option D} {o1 : D → Option D} {on : List D → Option D} {F : FD} {G : GF} {GL : GLF} {w : IF}
@[simp] theorem xConst_ap : xConst d env = .ok (d, env) := rfl
theorem xVar_fz (h : env[i]? = some (.fz d)) : xVar i env = .ok (d, env) := by unfold xVar; rw [h]
@[simp] theorem xVar_ap (h : env[i]? = some (.fz d)) : xVar i env = .ok (d, env) := xVar_fz h
@[simp] theorem x1_ap : x1 o1 f env = (f env).bind fun r => liftO (o1 r.1) r.2 := rfl
@[simp] theorem x2_ap : x2 o f g env = (f env).bind fun r => (g r.2).bind fun q => liftO (o r.1 q.1) q.2 := rfl
@[simp] theorem xn_ap : xn on l env = (l env).bind fun r => liftO (on r.1) r.2 := rfl
@[simp] theorem aNil_ap : aNil env = .ok ([], env) := rfl
@[simp] theorem aCons_ap : aCons f l env = (f env).bind fun r => (l r.2).bind fun q => .ok (r.1 :: q.1, q.2) := rfl
@[simp] theorem xTup_ap : xTup l env = (l env).bind fun r => liftO (if r.1.length ≤ sizeLine then some (.tuple r.1) else none) r.2 := rfl
@[simp] theorem xLst_ap : xLst l env = (l env).bind fun r => liftO (if r.1.length ≤ sizeLine then some (.list r.1) else none) r.2 := rfl
@[simp] theorem tst_ap : tst f env = (f env).bind asB := rfl
@[simp] theorem tNot_ap : tNotF c env = (c env).bind fun r => .ok (!r.1, r.2) := rfl
@[simp] theorem tAnd_ap : tAndF t u env = (t env).bind fun r => if r.1 = true then u r.2 else .ok (false, r.2) := rfl
@[simp] theorem tOr_ap : tOrF t u env = (t env).bind fun r => if r.1 = true then .ok (true, r.2) else u r.2 := rfl
@[simp] theorem tTrue_ap : tTrue env = .ok (true, env) := rfl
@[simp] theorem xIf_ap : xIf c f g env = (c env).bind fun r => if r.1 = true then f r.2 else g r.2 := rfl
@[simp] theorem xBool_ap : xBool c env = (c env).bind fun r => .ok (.bool r.1, r.2) := rfl
@[simp] theorem xChain_ap : xChain o o' f g k env = (f env).bind fun r => (g r.2).bind fun q => (liftO (o r.1 q.1) q.2).bind fun t => (asB t).bind fun t => if t.1 = true then (k t.2).bind fun u => (liftO (o' q.1 u.1) u.2).bind fun z => .ok z else .ok (.bool false, t.2) := rfl
@[simp] theorem xCall_ap : xCall n F l env = (l env).bind fun r => if r.1.length = n then (match F r.1 with
  | .ok d => .ok (d, r.2)
  | .exc c d _ => .exc c d r.2
  | .bad => .bad) else .bad := rfl
@[simp] theorem sNext_ap : sNext env = .ok (.nx, env) := rfl
@[simp] theorem sSeq_ap : sSeq p q env = (p env).bind fun r => match r.1 with
  | .nx => q r.2
  | fl => .ok (fl, r.2) := rfl
@[simp] theorem sSet_ap : sSet i f env = (f env).bind fun r => .ok (.nx, r.2.set i (.fz r.1)) := rfl
@[simp] theorem sOwn_ap : sOwn i f env = (f env).bind fun r => .ok (.nx, r.2.set i (.ow none r.1)) := rfl
@[simp] theorem sDrop_ap : sDrop f env = (f env).bind fun r => .ok (.nx, r.2) := rfl
@[simp] theorem sRet_ap : sRet f env = (f env).bind fun r => .ok (.rt r.1, r.2) := rfl
@[simp] theorem sRetN_ap : sRetN env = .ok (.rt .none, env) := rfl
@[simp] theorem sIf_ap : sIf c p q env = (c env).bind fun r => if r.1 = true then p r.2 else q r.2 := rfl
@[simp] theorem sPar2_ap : sPar2 i j l env = (l env).bind fun r => match r.1 with
  | [a, b] => .ok (.nx, (r.2.set i (.fz a)).set j (.fz b))
  | _ => .bad := rfl
@[simp] theorem sAsg_ap : sAsg G f env = (f env).bind fun r => match G r.1 r.2 with
  | some e => .ok (.nx, e)
  | none => .bad := rfl
@[simp] theorem gN_ap : gN i d env = some (env.set i (.fz d)) := rfl
@[simp] theorem gT_ap {ds : List D} : gT GL (.tuple ds) env = GL ds env := rfl
@[simp] theorem glNil_ap : glNil [] env = some env := rfl
@[simp] theorem glCons_ap {r : List D} : glCons G GL (d :: r) env = (G d env).bind (GL r) := rfl
@[simp] theorem sFor_ap : sFor w G p env = (w env).bind fun r => forL G p r.1 r.2 := rfl
@[simp] theorem iSeq_ap : iSeq f env = (f env).bind fun r => liftO (seqD r.1) r.2 := rfl
@[simp] theorem iArgs_ap {op : List D → Option (List D)} : iArgs op l env = (l env).bind fun r => liftO (op r.1) r.2 := rfl
@[simp] theorem pNo_ap : pNo env = .ok (none, env) := rfl
@[simp] theorem pAt_ap : pAt f env = (f env).bind asI := rfl
@[simp] theorem asI_int {x : Int} : asI (.int x, env) = .ok (some x, env) := rfl
@[simp] theorem xSl_ap {pl ph : PF} : xSl f pl ph env = (f env).bind fun r => (pl r.2).bind fun l => (ph l.2).bind fun h => liftO (slD r.1 l.1 h.1) h.2 := rfl
@[simp] theorem xComp_ap {vs : List Nat} : xComp w G c f vs env = ((w env).bind fun r => match cmpL G c f vs r.1 (wipeE r.2 vs) with
  | .ok (ds, e) => if ds.length ≤ sizeLine then .ok (ds, backE r.2 e vs) else .bad
  | _ => .bad).bind fun r => .ok (.list r.1, r.2) := rfl
@[simp] theorem xSortSet_ap : xSortSet f env = (f env).bind fun r => liftO (sortSetD r.1) r.2 := rfl
def owOf : Option Sl → Option D
  | some (.ow _ c) => some c
  | _ => none
@[simp] theorem owOf_ow {t : Option Nat} : owOf (some (.ow t d)) = some d := rfl
@[simp] theorem xVar_ow (h : owOf env[i]? = some d) : xVar i env = .ok (d, env.set i (.fz d)) := by
  unfold xVar
  cases e : env[i]? with
  | none => rw [e] at h; cases h
  | some s =>
    rw [e] at h
    cases s with
    | ow t c => cases h; rfl
    | _ => cases h
@[simp] theorem xLenS_ap {ns : List Int} (h : env[i]? = some (.sc ns)) : xLenS i env = .ok (.int ns.length, env) := by unfold xLenS; rw [h]
@[simp] theorem xAtS_ap {ns : List Int} (h : env[i]? = some (.sc ns)) : xAtS i f env = (f env).bind fun r => match r.1 with
    | .int k => liftO ((L2.atI ns k).map .int) r.2
    | _ => .bad := by unfold xAtS; rw [h]; try rfl
@[simp] theorem xCallS_ap {ns : List Int} {F : FS} (h : env[i]? = some (.sc ns)) : xCallS i F env = (match F ns with
    | .ok d => .ok (d, env)
    | .exc c d _ => .exc c d env
    | .bad => .bad) := by unfold xCallS; rw [h]; try rfl
def isOwl : Option Sl → Bool
  | some (.ow _ (.list _)) => true
  | _ => false
@[simp] theorem isOwl_ow {t : Option Nat} {ds : List D} : isOwl (some (.ow t (.list ds))) = true := rfl
@[simp] theorem xMutL_ap {op : List D → List D → Option (D × List D)} (h : isOwl env[i]? = true) : xMutL i op l env = (l env).bind fun r => match r.2[i]? with
    | some (.ow t (.list ds)) => (match op ds r.1 with
      | some (z, ds') => .ok (z, r.2.set i (.ow t (.list ds')))
      | none => .bad)
    | _ => .bad := by
  unfold xMutL
  cases e : env[i]? with
  | none => rw [e] at h; cases h
  | some s =>
    rw [e] at h
    unfold isOwl at h
    split at h
    · rename_i q
      cases q
      rfl
    · cases h
theorem for_args {op : List D → Option (List D)} {ds xs : List D} {e1 : Ev} (h : l env = .ok (ds, e1)) (h2 : op ds = some xs) : sFor (iArgs op l) G p env = forL G p xs e1 := by
  unfold sFor iArgs
  rw [h]
  simp only [Out.bind_ok, h2, liftO_some]
theorem for_seq {xs : List D} {d : D} {e1 : Ev} (h : f env = .ok (d, e1)) (h2 : seqD d = some xs) : sFor (iSeq f) G p env = forL G p xs e1 := by
  unfold sFor iSeq
  rw [h]
  simp only [Out.bind_ok, h2, liftO_some]
theorem app_ok {ds : List D} (h : ds.length < sizeLine) : opApp ds [d] = some (.none, ds ++ [d]) := if_pos h
theorem app_small {ds : List D} (h : ds.length < 16777216) : opApp ds [d] = some (.none, ds ++ [d]) := app_ok (by rw [sizeLine_eq]; exact h)
@[simp] theorem absD_i {x : Int} : absD [.int x] = some (.int (if x < 0 then -x else x)) := rfl
@[simp] theorem min2_i {x y : Int} : min2D [.int x, .int y] = some (.int (if y < x then y else x)) := rfl
@[simp] theorem max2_i {x y : Int} : max2D [.int x, .int y] = some (.int (if x < y then y else x)) := rfl
theorem rng1_ok {x : Int} (h : x < 4611686018427387904) (h2 : -4611686018427387904 < x) : rng1 [.int x] = some (rngD 0 1 x.toNat) := by
  have : s62 x = true := by simp [s62]; omega
  unfold rng1
  simp [this]
@[simp] theorem lenD_l {ds : List D} : lenD [.list ds] = some (.int ds.length) := rfl
@[simp] theorem lenD_t {ds : List D} : lenD [.tuple ds] = some (.int ds.length) := rfl
@[simp] theorem intD_i {x : Int} : intD [.int x] = some (.int x) := rfl
@[simp] theorem ixD_l {ds : List D} {x : Int} : ixD (.list ds) (.int x) = atI ds x := rfl
@[simp] theorem ixD_t {ds : List D} {x : Int} : ixD (.tuple ds) (.int x) = atI ds x := rfl
end
@[simp] theorem add_int (i j : Int) : addD (.int i) (.int j) = some (.int (i + j)) := rfl
@[simp] theorem sub_int (i j : Int) : subD (.int i) (.int j) = some (.int (i - j)) := rfl
@[simp] theorem neg_int (i : Int) : negD (.int i) = some (.int (-i)) := rfl
theorem mod_int {i j : Int} (h : 0 < j) : modD (.int i) (.int j) = some (.int (i % j)) := by
  unfold modD
  simp only
  rw [if_pos (by omega), Int.fmod_eq_emod_of_nonneg _ (by omega)]
theorem fdiv_int {i j : Int} (h : 0 < j) (h2 : j < 1073741824) : fdivD (.int i) (.int j) = some (.int (i / j)) := by
  unfold fdivD
  simp only
  rw [if_pos ⟨by omega, by omega⟩, Int.fdiv_eq_ediv_of_nonneg _ (by omega)]
theorem mul_r {i j : Int} (h : s64 j = true) : mulD (.int i) (.int j) = some (.int (i * j)) := by
  unfold mulD
  simp [h]
theorem mul_l {i j : Int} (h : s64 i = true) : mulD (.int i) (.int j) = some (.int (i * j)) := by
  unfold mulD
  simp [h]
theorem okD_leaf {x y : D} (h : x.depth = 0) : okD x y = true := by
  unfold okD
  rw [h]
  simp
@[simp] theorem lt_int (i j : Int) : ltD (.int i) (.int j) = some (.bool (decide (i < j))) := by
  unfold ltD
  rw [if_pos (by simp [PySem.W.alike, notNone, okD, PyData.depth]), PySem.W.dataLt_int]
@[simp] theorem gt_int (i j : Int) : gtD (.int i) (.int j) = some (.bool (decide (j < i))) := by
  unfold gtD
  rw [if_pos (by simp [PySem.W.alike, notNone, okD, PyData.depth]), PySem.W.dataLt_int]
@[simp] theorem le_int (i j : Int) : leD (.int i) (.int j) = some (.bool (decide (i ≤ j))) := by
  unfold leD
  rw [if_pos (by simp [PySem.W.alike, notNone, okD, PyData.depth]), PySem.W.dataLt_int]
  congr 2
  by_cases h : i ≤ j
  · rw [decide_eq_true h, decide_eq_false (by omega)]; rfl
  · rw [decide_eq_false h, decide_eq_true (by omega)]; rfl
@[simp] theorem ge_int (i j : Int) : geD (.int i) (.int j) = some (.bool (decide (j ≤ i))) := by
  unfold geD
  rw [if_pos (by simp [PySem.W.alike, notNone, okD, PyData.depth]), PySem.W.dataLt_int]
  congr 2
  by_cases h : j ≤ i
  · rw [decide_eq_true h, decide_eq_false (by omega)]; rfl
  · rw [decide_eq_false h, decide_eq_true (by omega)]; rfl
@[simp] theorem eq_int (i j : Int) : eqD (.int i) (.int j) = some (.bool (decide (i = j))) := by
  unfold eqD
  rw [if_pos (by simp [PyData.plain, okD, PyData.depth])]
  simp only [PyData.eqv]
  exact congrArg (fun b => some (PyData.bool b)) (by rw [Bool.eq_iff_iff]; simp)
@[simp] theorem ne_int (i j : Int) : neD (.int i) (.int j) = some (.bool (decide (i ≠ j))) := by
  unfold neD
  rw [if_pos (by simp [PyData.plain, okD, PyData.depth])]
  simp only [PyData.eqv]
  exact congrArg (fun b => some (PyData.bool b)) (by rw [Bool.eq_iff_iff]; simp)
@[simp] theorem eq_strD (x y : Str) : eqD (.str x) (.str y) = some (.bool (decide (x = y))) := by
  unfold eqD
  rw [if_pos (by simp [PyData.plain, okD, PyData.depth])]
  simp only [PyData.eqv]
  exact congrArg (fun b => some (PyData.bool b)) (by rw [Bool.eq_iff_iff]; simp)
@[simp] theorem ne_strD (x y : Str) : neD (.str x) (.str y) = some (.bool (decide (x ≠ y))) := by
  unfold neD
  rw [if_pos (by simp [PyData.plain, okD, PyData.depth])]
  simp only [PyData.eqv]
  exact congrArg (fun b => some (PyData.bool b)) (by rw [Bool.eq_iff_iff]; simp)
end DP
set_option Elab.async false
set_option linter.all false
set_option maxRecDepth 100000
/-! DP, part 23: plain laws of sorted tuples of ints, of dicts with int keys, of comprehensions. -/
namespace DP
open PySem PySem.Spec PyProof.Rows L2

theorem cmp_ex {g : GF} {el : XF} {vs : List Nat} {env : Ev} {R : D → Prop} : ∀ xs : List D, (∀ x ∈ xs, ∃ e1 y, g x env = some e1 ∧ el e1 = .ok (y, e1) ∧ wipeE e1 vs = env ∧ R y) → ∃ ys, cmpL g tTrue el vs xs env = .ok (ys, env) ∧ ys.length = xs.length ∧ ∀ y ∈ ys, R y
  | [], _ => ⟨[], rfl, rfl, fun _ h => nomatch h⟩
  | x :: xs, h => by
    obtain ⟨e1, y, h1, h2, h3, h4⟩ := h x List.mem_cons_self
    obtain ⟨ys, h5, h6, h7⟩ := cmp_ex xs fun z hz => h z (List.mem_cons_of_mem _ hz)
    refine ⟨y :: ys, ?_, by simp [h6], fun z hz => (List.mem_cons.mp hz).elim (fun e => e ▸ h4) (h7 z)⟩
    unfold cmpL
    rw [h1]
    simp only [tTrue, Out.bind_ok, if_true, h2, h3, h5]
theorem cmp_ix {g : GF} {el : XF} {vs : List Nat} {env : Ev} {F : Nat → D} : ∀ (xs : List D) (n : Nat), (∀ i x, xs[i]? = some x → ∃ e1, g x env = some e1 ∧ el e1 = .ok (F (n + i), e1) ∧ wipeE e1 vs = env) → cmpL g tTrue el vs xs env = .ok ((List.range' n xs.length).map F, env)
  | [], n, _ => rfl
  | x :: xs, n, h => by
    obtain ⟨e1, h1, h2, h3⟩ := h 0 x rfl
    have ih := cmp_ix xs (n + 1) fun i y hy => by
      obtain ⟨e2, a, b, c⟩ := h (i + 1) y (by simpa using hy)
      exact ⟨e2, a, by rw [show n + 1 + i = n + (i + 1) by omega]; exact b, c⟩
    unfold cmpL
    rw [h1]
    simp only [tTrue, Out.bind_ok, if_true, h2, h3, ih, List.length_cons, List.range'_succ, List.map_cons, Nat.add_zero]
theorem cmp2_all {g g1 : GF} {it1 : IF} {el : XF} {vs vs1 : List Nat} {env : Ev} {f : D → List D} : ∀ xs : List D, (∀ x ∈ xs, ∃ e1 i e2 e3, g x env = some e1 ∧ it1 e1 = .ok (i, e2) ∧ cmpL g1 tTrue el vs1 i (wipeE e2 vs1) = .ok (f x, e3) ∧ wipeE e3 vs = env) →
    cmp2L g tTrue it1 g1 tTrue el vs vs1 xs env = .ok ((xs.map f).flatten, env)
  | [], _ => rfl
  | x :: xs, h => by
    obtain ⟨e1, i, e2, e3, h1, h2, h3, h4⟩ := h x List.mem_cons_self
    unfold cmp2L
    rw [h1]
    simp only [tTrue, Out.bind_ok, if_true, h2, h3, h4, cmp2_all xs fun y hy => h y (List.mem_cons_of_mem _ hy), List.map_cons, List.flatten_cons]
theorem comp2_ok {it : IF} {g : GF} {ts : TF} {it1 : IF} {g1 : GF} {ts1 : TF} {el : XF} {vs vs1 : List Nat} {env e1 e2 : Ev} {xs ys : List D} (h1 : it env = .ok (xs, e1)) (h2 : cmp2L g ts it1 g1 ts1 el vs vs1 xs (wipeE e1 vs) = .ok (ys, e2)) (h3 : ys.length ≤ sizeLine) : xComp2 it g ts it1 g1 ts1 el vs vs1 env = .ok (.list ys, backE e1 e2 vs) := by
  unfold xComp2 lComp2
  rw [h1]
  simp only [Out.bind_ok, h2, if_pos h3]
theorem comp_ok {it : IF} {g : GF} {ts : TF} {el : XF} {vs : List Nat} {env e1 e2 : Ev} {xs ys : List D} (h1 : it env = .ok (xs, e1)) (h2 : cmpL g ts el vs xs (wipeE e1 vs) = .ok (ys, e2)) (h3 : ys.length ≤ sizeLine) : xComp it g ts el vs env = .ok (.list ys, backE e1 e2 vs) := by
  unfold xComp lComp
  rw [h1]
  simp only [Out.bind_ok, h2, if_pos h3]
theorem args_ok {op : List D → Option (List D)} {l : AF} {env e1 : Ev} {ds xs : List D} (h : l env = .ok (ds, e1)) (h2 : op ds = some xs) : iArgs op l env = .ok (xs, e1) := by
  unfold iArgs
  rw [h]
  simp only [Out.bind_ok, h2, liftO_some]
theorem seq_ok {f : XF} {env e1 : Ev} {d : D} {xs : List D} (h : f env = .ok (d, e1)) (h2 : seqD d = some xs) : iSeq f env = .ok (xs, e1) := by
  unfold iSeq
  rw [h]
  simp only [Out.bind_ok, h2, liftO_some]
theorem its_of {R : List Int → Prop} : ∀ ys : List D, (∀ y ∈ ys, ∃ l, y = tupI l ∧ R l) → ∃ L : List (List Int), ys = L.map tupI ∧ ∀ l ∈ L, R l
  | [], _ => ⟨[], rfl, fun _ h => nomatch h⟩
  | y :: ys, h => by
    obtain ⟨l, rfl, h1⟩ := h y List.mem_cons_self
    obtain ⟨L, rfl, h2⟩ := its_of ys fun z hz => h z (List.mem_cons_of_mem _ hz)
    exact ⟨l :: L, rfl, fun z hz => (List.mem_cons.mp hz).elim (fun e => e ▸ h1) (h2 z)⟩
theorem depth_ints : ∀ l : List Int, PyData.depthAll (l.map PyData.int) = 0
  | [] => by simp [PyData.depthAll]
  | x :: l => by simp [PyData.depthAll, PyData.depth, depth_ints l]
theorem depth_tupI (l : List Int) : (tupI l).depth = 1 := by simp [PyData.depth, depth_ints]
theorem srtOk_tups {L : List (List Int)} (h : ∀ l ∈ L, l ≠ []) : srtOk (L.map tupI) = true := by
  simp only [srtOk, Bool.and_eq_true, Bool.or_eq_true, List.all_eq_true, List.mem_map, decide_eq_true_eq]
  refine ⟨⟨?_, .inl ?_⟩, ?_⟩
  · rintro x ⟨a, ha, rfl⟩ y ⟨b, hb, rfl⟩
    simp only [PySem.W.alike]
    exact alike_ints a b
  · rintro x ⟨a, ha, rfl⟩
    cases a with
    | nil => exact absurd rfl (h _ ha)
    | cons i a => rfl
  · rintro x ⟨a, ha, rfl⟩
    rw [depth_tupI]
    omega
theorem sortL_tups (L : List (List Int)) : sortL (L.map tupI) = (L.mergeSort leI).map tupI := by
  unfold sortL
  exact (List.map_mergeSort (r := leI) (s := dLe) (f := tupI) (l := L) fun a _ b _ => (dLe_tupI a b).symm).symm
theorem strict_of : ∀ {L : List (List Int)}, L.Nodup → L.Pairwise (fun a b => leI a b = true) → L.Pairwise (fun a b => lexI a b = true)
  | [], _, _ => List.Pairwise.nil
  | a :: L, n, p => by
    obtain ⟨n1, n2⟩ := List.nodup_cons.mp n
    obtain ⟨p1, p2⟩ := List.pairwise_cons.mp p
    refine List.pairwise_cons.mpr ⟨fun b hb => ?_, strict_of n2 p2⟩
    cases e : lexI a b with
    | true => rfl
    | false =>
      have h := p1 b hb
      unfold leI at h
      rw [Bool.not_eq_true'] at h
      have := lexI_tri e h
      subst this
      exact absurd hb n1
theorem sort_strict {L : List (List Int)} (n : L.Nodup) : (L.mergeSort leI).Pairwise (fun a b => lexI a b = true) :=
  strict_of ((List.mergeSort_perm L leI).nodup_iff.mpr n) (List.pairwise_mergeSort (fun a b c => leI_trans a b c) (fun a b => leI_total a b) L)
theorem setI_strict (L : List (List Int)) : (setI L).Pairwise (fun a b => lexI a b = true) := sort_strict (nodup_dups _ L (Nat.le_refl _))
theorem mem_setI {L : List (List Int)} {l : List Int} : l ∈ setI L ↔ l ∈ L := by
  unfold setI
  rw [(List.mergeSort_perm _ _).mem_iff, List.mem_eraseDups]
theorem dups_len {α : Type} [BEq α] [LawfulBEq α] : ∀ (n : Nat) (xs : List α), xs.length ≤ n → xs.eraseDups.length ≤ xs.length
  | _, [], _ => by simp
  | 0, x :: xs, h => by simp at h
  | n + 1, x :: xs, h => by
    rw [List.eraseDups_cons, List.length_cons, List.length_cons]
    have h1 := List.length_filter_le (fun b => !b == x) xs
    have h2 := dups_len n (xs.filter fun b => !b == x) (Nat.le_trans h1 (by simpa using h))
    omega
theorem setI_len (L : List (List Int)) : (setI L).length ≤ L.length := by
  unfold setI
  rw [List.length_mergeSort]
  exact dups_len _ L (Nat.le_refl _)
theorem intsD_map : ∀ l : List Int, intsD (l.map PyData.int) = some l
  | [] => rfl
  | x :: l => by simp [intsD, intsD_map l]
theorem itsD_map : ∀ L : List (List Int), itsD (L.map tupI) = some L
  | [] => rfl
  | l :: L => by
    rw [List.map_cons]
    unfold itsD isIT
    simp [intsD_map, itsD_map L]
theorem sortSet_tups {L : List (List Int)} (h : ∀ l ∈ L, l ≠ []) (h2 : L.length < 64) : sortSetD (.list (L.map tupI)) = some (.list ((setI L).map tupI)) := by
  unfold sortSetD
  simp only [itsD_map]
  rw [if_pos ⟨by rw [List.length_map]; exact h2, srtOk_tups h⟩]
/-- a strictly sorted row is the one of its set -/
theorem setI_of_strict {L : List (List Int)} (h : L.Pairwise (fun a b => lexI a b = true)) : setI L = L := by
  have n : L.Nodup := h.imp fun {a b} q e => by
    subst e
    rw [lexI_irrefl] at q
    cases q
  refine sorted_one (le := leI) (fun a b => leI_anti) ?_ (List.pairwise_mergeSort (fun a b c => leI_trans a b c) (fun a b => leI_total a b) _) (h.imp fun {a b} q => by unfold leI; rw [lexI_asymm q]; rfl)
  exact (List.mergeSort_perm _ _).trans (perm_dups n (fun _ q => q) fun _ q => q).symm

/-! ### dicts with int keys and int values -/
abbrev ii (p : Int × Int) : D × D := (.int p.1, .int p.2)
def putI (qs : List (Int × Int)) (k v : Int) : List (Int × Int) := if qs.any (fun p => decide (p.1 = k)) = true then qs.map (fun p => if p.1 = k then (p.1, v) else p) else qs ++ [(k, v)]
theorem kIs_int (k : Int) (p : Int × Int) : kIs (.int k) (ii p) = decide (p.1 = k) := by
  unfold kIs
  simp [keyD]
theorem dPut_ii (qs : List (Int × Int)) (k v : Int) : dPut (qs.map ii) (.int k) (.int v) = (putI qs k v).map ii := by
  unfold dPut putI
  have e : (qs.map ii).any (kIs (.int k)) = qs.any fun p => decide (p.1 = k) := by
    rw [List.any_map]
    congr 1
    funext p
    exact kIs_int k p
  rw [e]
  split
  · rw [List.map_map, List.map_map]
    refine List.map_congr_left fun p _ => ?_
    simp only [Function.comp, kIs_int, decide_eq_true_eq]
    split <;> rfl
  · simp
theorem putI_nodup {qs : List (Int × Int)} {k v : Int} (n : (qs.map (·.1)).Nodup) : ((putI qs k v).map (·.1)).Nodup := by
  unfold putI
  split
  · rw [List.map_map]
    have : ((fun p : Int × Int => p.1) ∘ fun p => if p.1 = k then (p.1, v) else p) = fun p => p.1 := by
      funext p
      simp only [Function.comp]
      split <;> rfl
    rw [this]
    exact n
  · rename_i c
    rw [List.map_append, List.nodup_append]
    refine ⟨n, by simp, ?_⟩
    intro a ha b hb
    simp only [List.map_cons, List.map_nil, List.mem_singleton] at hb
    subst hb
    rintro rfl
    obtain ⟨p, hp, e⟩ := List.mem_map.mp ha
    exact c (List.any_eq_true.mpr ⟨p, hp, decide_eq_true e⟩)
theorem putI_mem {qs : List (Int × Int)} {k v : Int} {p : Int × Int} (h : p ∈ putI qs k v) : p ∈ qs ∨ p = (k, v) := by
  unfold putI at h
  split at h
  · obtain ⟨q, hq, e⟩ := List.mem_map.mp h
    split at e
    · rename_i c
      exact .inr (by rw [← e, c])
    · exact .inl (e ▸ hq)
  · rcases List.mem_append.mp h with q | q
    · exact .inl q
    · exact .inr (List.mem_singleton.mp q)
theorem dMerge_ii : ∀ (more acc : List (Int × Int)), (acc.map (·.1)).Nodup → ∃ rs : List (Int × Int), dMerge (acc.map ii) (more.map ii) = rs.map ii ∧ (rs.map (·.1)).Nodup ∧ (∀ p ∈ rs, p ∈ acc ∨ p ∈ more) ∧ rs.length ≤ acc.length + more.length
  | [], acc, n => ⟨acc, rfl, n, fun p h => .inl h, Nat.le_refl _⟩
  | q :: more, acc, n => by
    obtain ⟨rs, h1, h2, h3, h4⟩ := dMerge_ii more (putI acc q.1 q.2) (putI_nodup n)
    refine ⟨rs, ?_, h2, fun p hp => ?_, ?_⟩
    · show dMerge (dPut (acc.map ii) (.int q.1) (.int q.2)) (more.map ii) = _
      rw [dPut_ii, h1]
    · rcases h3 p hp with z | z
      · rcases putI_mem z with y | y
        · exact .inl y
        · exact .inr (by rw [y]; exact List.mem_cons_self)
      · exact .inr (List.mem_cons_of_mem _ z)
    · have := dPut_len (acc.map ii) (.int q.1) (.int q.2)
      rw [dPut_ii, List.length_map, List.length_map] at this
      rw [List.length_cons]
      omega
theorem pairsD_ii : ∀ L : List (Int × Int), pairsD (L.map fun p => tupI [p.1, p.2]) = some (L.map ii)
  | [] => rfl
  | p :: L => by
    rw [List.map_cons]
    have : keyOk (.int p.1) = true := by simp [keyOk, keyD, NestedKey.depth]
    show ((if keyOk (.int p.1) = true then some (PyData.int p.1, PyData.int p.2) else none).bind fun q => (pairsD (L.map fun p => tupI [p.1, p.2])).map fun l => q :: l) = _
    rw [if_pos this, pairsD_ii L]
    rfl
/-- sorted(dict(pairs).items()) -/
theorem sortItems_ii (L : List (Int × Int)) : ∃ rs : List (List Int), ((dictD [.list (L.map fun p => tupI [p.1, p.2])]).bind sortItemsD) = some (.list (rs.map tupI)) ∧ rs.Pairwise (fun a b => lexI a b = true) ∧ (∀ r ∈ rs, ∃ p ∈ L, r = [p.1, p.2]) ∧ rs.length ≤ L.length := by
  obtain ⟨qs, h1, h2, h3, h4⟩ := dMerge_ii L [] List.nodup_nil
  have e : (qs.map ii).map pairT = (qs.map fun p => [p.1, p.2]).map tupI := by
    rw [List.map_map, List.map_map]
    rfl
  have ok : srtOk ((qs.map ii).map pairT) = true := by
    rw [e]
    refine srtOk_tups fun l hl => ?_
    obtain ⟨p, _, rfl⟩ := List.mem_map.mp hl
    exact fun z => nomatch z
  have nd : (qs.map fun p => [p.1, p.2]).Nodup := by
    refine List.pairwise_map.mpr ((List.pairwise_map.mp h2).imp fun {a b} q z => ?_)
    simp only [List.cons.injEq, and_true] at z
    exact q z.1
  refine ⟨(qs.map fun p => [p.1, p.2]).mergeSort leI, ?_, sort_strict nd, fun r hr => ?_, ?_⟩
  · unfold dictD
    simp only
    rw [pairsD_ii]
    show (some (PyData.dict (dMerge [] (L.map ii)))).bind sortItemsD = _
    have h1' : dMerge [] (L.map ii) = qs.map ii := h1
    rw [h1']
    show sortItemsD (.dict (qs.map ii)) = _
    unfold sortItemsD
    simp only
    rw [if_pos ok, e, sortL_tups]
  · have := (List.mergeSort_perm _ _).mem_iff.mp hr
    obtain ⟨p, hp, rfl⟩ := List.mem_map.mp this
    exact ⟨p, (h3 p hp).resolve_left (fun z => nomatch z), rfl⟩
  · rw [List.length_mergeSort, List.length_map]
    simpa using h4
theorem lt_tupI (a b : List Int) : ltD (tupI a) (tupI b) = some (.bool (lexI a b)) := by
  unfold ltD
  rw [if_pos (by
    simp only [PySem.W.alike, alike_ints, notNone, okD, depth_tupI, Bool.and_self, Bool.true_and]
    decide), dataLt_tupI]
theorem boolsD_map : ∀ l : List Bool, boolsD (l.map PyData.bool) = some l
  | [] => rfl
  | x :: l => by simp [boolsD, boolsD_map l]
theorem allD_map (l : List Bool) : allD [.list (l.map PyData.bool)] = some (.bool (l.all id)) := by
  unfold allD
  simp [boolsD_map]
theorem at_int {l : List Int} {i : Nat} {x : Int} (h : l[i]? = some x) : L2.atI (l.map PyData.int) (i : Int) = some (.int x) := by
  refine atI_nat (j := i) ?_
  rw [List.getElem?_map, h]
  rfl
theorem for_find {g : GF} {body : SF} {d : D} (I : Ev → Prop) (bad : D → Bool) : ∀ (xs : List D) (env : Ev), (∀ x ∈ xs, ∀ env, I env → ∃ e1, g x env = some e1 ∧ (bad x = true → ∃ e2, body e1 = .ok (.rt d, e2)) ∧ (bad x = false → ∃ e2, body e1 = .ok (.nx, e2) ∧ I e2)) → I env →
    (xs.any bad = true → ∃ e2, forL g body xs env = .ok (.rt d, e2)) ∧ (xs.any bad = false → ∃ e2, forL g body xs env = .ok (.nx, e2) ∧ I e2)
  | [], env, _, h => ⟨fun z => by simp at z, fun _ => ⟨env, rfl, h⟩⟩
  | x :: xs, env, step, h => by
    obtain ⟨e1, h1, h2, h3⟩ := step x List.mem_cons_self env h
    cases hb : bad x with
    | true =>
      obtain ⟨e2, h4⟩ := h2 hb
      refine ⟨fun _ => ⟨e2, ?_⟩, fun z => by simp [hb] at z⟩
      unfold forL
      rw [h1]
      simp only [h4, Out.bind_ok]
    | false =>
      obtain ⟨e2, h4, h5⟩ := h3 hb
      obtain ⟨k1, k2⟩ := for_find I bad xs e2 (fun y hy => step y (List.mem_cons_of_mem _ hy)) h5
      have e : forL g body (x :: xs) env = forL g body xs e2 := by
        conv => lhs; unfold forL
        rw [h1]
        simp only [h4, Out.bind_ok]
      rw [e]
      simp only [List.any_cons, hb, Bool.false_or]
      exact ⟨k1, k2⟩
theorem eqv_ints : ∀ a b : List Int, PyData.eqvAll (a.map PyData.int) (b.map PyData.int) = decide (a = b)
  | [], [] => by simp [PyData.eqvAll]
  | [], _ :: _ => by simp [PyData.eqvAll]
  | _ :: _, [] => by simp [PyData.eqvAll]
  | x :: a, y :: b => by
    rw [List.map_cons, List.map_cons, PyData.eqvAll, eqv_ints a b]
    simp only [PyData.eqv]
    rw [Bool.eq_iff_iff]
    simp
theorem eqv_tups : ∀ a b : List (List Int), PyData.eqvAll (a.map tupI) (b.map tupI) = decide (a = b)
  | [], [] => by simp [PyData.eqvAll]
  | [], _ :: _ => by simp [PyData.eqvAll]
  | _ :: _, [] => by simp [PyData.eqvAll]
  | x :: a, y :: b => by
    rw [List.map_cons, List.map_cons, PyData.eqvAll, eqv_tups a b]
    simp only [PyData.eqv, eqv_ints]
    rw [Bool.eq_iff_iff]
    simp
theorem plain_ints : ∀ a : List Int, PyData.plainAll (a.map PyData.int) = true
  | [] => by simp [PyData.plainAll]
  | x :: a => by simp [PyData.plainAll, PyData.plain, plain_ints a]
theorem plain_tups : ∀ a : List (List Int), PyData.plainAll (a.map tupI) = true
  | [] => by simp [PyData.plainAll]
  | x :: a => by
    rw [List.map_cons, PyData.plainAll, plain_tups a]
    simp [PyData.plain, plain_ints]
theorem depth_tups : ∀ L : List (List Int), PyData.depthAll (L.map tupI) ≤ 1
  | [] => by simp [PyData.depthAll]
  | x :: L => by
    have := depth_tups L
    rw [List.map_cons, PyData.depthAll, depth_tupI]
    omega
theorem ne_tups (a b : List (List Int)) : neD (.list (a.map tupI)) (.list (b.map tupI)) = some (.bool (decide (a ≠ b))) := by
  unfold neD
  have h1 : okD (.list (a.map tupI)) (.list (b.map tupI)) = true := by
    unfold okD
    have := depth_tups a
    have e : (PyData.list (a.map tupI)).depth = PyData.depthAll (a.map tupI) + 1 := by simp only [PyData.depth]
    refine decide_eq_true (Nat.le_trans (Nat.min_le_left _ _) ?_)
    rw [e]
    omega
  rw [if_pos (by simp [PyData.plain, plain_tups, h1])]
  refine congrArg (fun b => some (PyData.bool b)) ?_
  simp only [PyData.eqv, eqv_tups]
  rw [Bool.eq_iff_iff]
  simp
end DP
set_option Elab.async false
set_option linter.all false
set_option maxRecDepth 100000
namespace DP
open PySem
mutual
/-- plain data without a dict, its ints under a trillion -/
def nc : D → Bool
  | .none | .bool _ => true
  | .int i => decide (i.natAbs < 10 ^ 12)
  | .str x => x.cps.toList.all fun c => decide (c < 16 ^ 8)
  | .list xs | .tuple xs => ncAll xs
  | .dict _ => false
def ncAll : List D → Bool
  | [] => true
  | x :: xs => nc x && ncAll xs
end
theorem log_small {i : Int} (h : i.natAbs < 10 ^ 12) : i.natAbs.log2 < 1920 := by
  by_cases h0 : i.natAbs = 0
  · rw [h0]; decide
  · have h2 : i.natAbs.log2 < 40 := (Nat.log2_lt h0).mpr (Nat.lt_trans h (by decide))
    omega
mutual
theorem nc_show : ∀ d : D, nc d = true → d.showable = true ∧ d.hasDict = false ∧ d.leavesShort 13 = true ∧ d.plain = true ∧ PySem.W.alike d d = true
  | .none, _ => by simp [PyData.showable, PyData.hasDict, PyData.leavesShort, PyData.plain, PySem.W.alike]
  | .bool _, _ => by simp [PyData.showable, PyData.hasDict, PyData.leavesShort, PyData.plain, PySem.W.alike]
  | .int i, h => by
    have h' : i.natAbs < 10 ^ 12 := by simpa only [nc, decide_eq_true_eq] using h
    refine ⟨?_, rfl, ?_, ?_, ?_⟩
    · simp only [PyData.showable, decide_eq_true_eq]; exact log_small h'
    · simp only [PyData.leavesShort, decide_eq_true_eq]; exact PyData.shown_int_le h'
    · simp [PyData.plain]
    · simp [PySem.W.alike]
  | .str x, h => by
    refine ⟨by simp [PyData.showable], by simp [PyData.hasDict], ?_, by simp [PyData.plain], by simp [PySem.W.alike]⟩
    simp only [nc] at h
    simp only [PyData.leavesShort]
    exact h
  | .list xs, h => by
    simp only [nc] at h
    have := nc_showAll xs h
    simpa only [PyData.showable, PyData.hasDict, PyData.leavesShort, PyData.plain, PySem.W.alike] using this
  | .tuple xs, h => by
    simp only [nc] at h
    have := nc_showAll xs h
    simpa only [PyData.showable, PyData.hasDict, PyData.leavesShort, PyData.plain, PySem.W.alike] using this
  | .dict _, h => by simp [nc] at h
theorem nc_showAll : ∀ xs : List D, ncAll xs = true → PyData.showableAll xs = true ∧ PyData.hasDictAll xs = false ∧ PyData.leavesShortAll 13 xs = true ∧ PyData.plainAll xs = true ∧ PySem.W.alikeAll xs xs = true
  | [], _ => by simp [PyData.showableAll, PyData.hasDictAll, PyData.leavesShortAll, PyData.plainAll, PySem.W.alikeAll]
  | x :: xs, h => by
    simp only [ncAll, Bool.and_eq_true] at h
    obtain ⟨a1, a2, a3, a4, a5⟩ := nc_show x h.1
    obtain ⟨b1, b2, b3, b4, b5⟩ := nc_showAll xs h.2
    simp only [PyData.showableAll, PyData.hasDictAll, PyData.leavesShortAll, PyData.plainAll, PySem.W.alikeAll, a1, a2, a3, a4, a5, b1, b2, b3, b4, b5, Bool.and_self, Bool.or_self, and_self]
end
theorem repr_nc {d : D} (h : nc d = true) (h1 : d.depth ≤ 60) (h2 : d.bulk ≤ 1048576) : reprD [d] = some (.str d.shown) := by
  obtain ⟨a1, a2, a3, a4, a5⟩ := nc_show d h
  have c : d.showable = true ∧ d.hasDict = false ∧ d.depth ≤ 60 ∧ d.shown.length ≤ sizeLine := ⟨a1, a2, h1, PyData.shown_fits_bulk (B := 13) (by decide) (by decide) a3 (by simpa using h2)⟩
  exact if_pos c
theorem ne_nc {d : D} (h : nc d = true) (h1 : d.depth ≤ 60) : neD d d = some (.bool false) := by
  obtain ⟨a1, a2, a3, a4, a5⟩ := nc_show d h
  unfold neD
  have : okD d d = true := by unfold okD; simp [h1]
  rw [a4, this, PySem.W.eqv_refl_alike d a5]
  rfl
theorem nc_int {i : Int} (h1 : -1000000000000 < i) (h2 : i < 1000000000000) : nc (.int i) = true := by
  simp only [nc, decide_eq_true_eq]
  omega
theorem ncAll_iff : ∀ {xs : List D}, ncAll xs = true ↔ ∀ x ∈ xs, nc x = true
  | [] => by simp [ncAll]
  | x :: xs => by simp [ncAll, ncAll_iff (xs := xs)]
theorem nc_tuple {xs : List D} (h : ∀ x ∈ xs, nc x = true) : nc (.tuple xs) = true := by
  simp only [nc]; exact ncAll_iff.mpr h
theorem nc_list {xs : List D} (h : ∀ x ∈ xs, nc x = true) : nc (.list xs) = true := by
  simp only [nc]; exact ncAll_iff.mpr h
theorem depthAll_le {n : Nat} : ∀ {xs : List D}, (∀ x ∈ xs, x.depth ≤ n) → PyData.depthAll xs ≤ n
  | [], _ => by simp [PyData.depthAll]
  | x :: xs, h => by
    simp only [PyData.depthAll]
    have h1 := h x List.mem_cons_self
    have h2 := depthAll_le (xs := xs) fun y hy => h y (List.mem_cons_of_mem _ hy)
    omega
theorem depth_tuple {n : Nat} {xs : List D} (h : ∀ x ∈ xs, x.depth ≤ n) : (PyData.tuple xs).depth ≤ n + 1 := by
  have := depthAll_le h
  simp only [PyData.depth]; omega
theorem depth_list {n : Nat} {xs : List D} (h : ∀ x ∈ xs, x.depth ≤ n) : (PyData.list xs).depth ≤ n + 1 := by
  have := depthAll_le h
  simp only [PyData.depth]; omega
theorem bulkAll_le {n : Nat} : ∀ {xs : List D}, (∀ x ∈ xs, x.bulk ≤ n) → PyData.bulkAll xs ≤ xs.length * (n + 1)
  | [], _ => by simp [PyData.bulkAll]
  | x :: xs, h => by
    simp only [PyData.bulkAll, List.length_cons, Nat.add_mul]
    have h1 := h x List.mem_cons_self
    have h2 := bulkAll_le (xs := xs) fun y hy => h y (List.mem_cons_of_mem _ hy)
    omega
theorem bulk_tuple {n : Nat} {xs : List D} (h : ∀ x ∈ xs, x.bulk ≤ n) : (PyData.tuple xs).bulk ≤ xs.length * (n + 1) := by
  simp only [PyData.bulk]; exact bulkAll_le h
theorem bulk_list {n : Nat} {xs : List D} (h : ∀ x ∈ xs, x.bulk ≤ n) : (PyData.list xs).bulk ≤ xs.length * (n + 1) := by
  simp only [PyData.bulk]; exact bulkAll_le h
end DP
set_option Elab.async false
set_option linter.all false
set_option maxRecDepth 100000
set_option maxHeartbeats 2000000
/-! DP, part 25: an own error class whose __init__ says super().__init__(at); self.at = at. -/
namespace DP
open PySem PySem.W PySem.Calls PyProof.Rows

def neA (p1 p2 : Pos) : Arguments := { posonlyargs := [], args := [{ arg := "self", annotation := none, pos := p1 }, { arg := "at", annotation := none, pos := p2 }], vararg := none, kwonlyargs := [], kw_defaults := [], kwarg := none, defaults := [] }
def neB (q1 q2 q3 q4 q5 q6 r1 r2 r3 r4 : Pos) : List Stmt :=
  [.Expr (.Call (.Attribute (.Call (.Name "super" q1) [] [] q2) "__init__" q3) [.Name "at" q4] [] q5) q6, .Assign [.Attribute (.Name "self" r1) "at" r2] (.Name "at" r3) r4]
def neS : Scope := { kind := .function, names := [(PySem.Str.ofString "self", .local), (PySem.Str.ofString "at", .local), (PySem.Str.ofString "__class__", .free), (PySem.Str.ofString "super", .globalImplicit)], isGenerator := false, isCoroutine := false, more := [] }
/-- what the written part says of the base class, at B, and of its __init__, at f -/
structure NetB (P : Program) (K : Frag) (mg : Str → Option Value) (B f : Addr) : Prop where
  fn : ∃ (oc : Value) (od : Option Addr) (kV doc pm : Value) (an : Option Addr) (cda : Addr) (ct : Value) (cc : Addr) (osl : Array (Option Value)) (p1 p2 q1 q2 q3 q4 q5 q6 r1 r2 r3 r4 : Pos),
    K.lookup f = some ⟨oc, od, .func (ksFn "__init__" "NetError.__init__" (neA p1 p2) (neB q1 q2 q3 q4 q5 q6 r1 r2 r3 r4) neS .none kV doc pm an (.ref cda) ct cc), osl⟩ ∧ (q3.endLine == q5.line) = true ∧ codeIn K (.ref cda) "NetError.__init__" = true ∧
    (∃ (ccl : Value) (cdd : Option Addr) (vs : Array Value) (ccs : Array (Option Value)) (file : Str) (tf : Tok), K.lookup cda = some ⟨ccl, cdd, .fields vs, ccs⟩ ∧ vs[2]? = some (.str file tf) ∧ ((P.main.file : Str) == file) = true) ∧
    ∃ (cl : Value) (cld : Option Addr) (csl : Array (Option Value)), K.lookup cc = some ⟨cl, cld, .cell (some (.ref B)), csl⟩
  cB : ∃ cd, clsIn K B = some cd
  sup : mg "super" = none
  tp : nsIn K cStatics "thirdparty.any" = some none
  top : (P.main.scope.names.lookup ("super" : Str)).isSome = false
  tI : typeIn K (.ref f) = some (.type "function")
/-- .. and of a class of errors, at C: the base class itself or one below it -/
structure NetC (K : Frag) (B f C : Addr) : Prop where
  cls : ∃ nm q N bs bm sn sub ab col dd k0 k1 k2 k3 k5, K.lookup C = some (excClassObj nm q C N bs bm true sn sub ab col dd k0 k1 k2 k3 k5 "ValueError.__new__") ∧ HandSPX.refsVE bm = true
  sa : findIn K (.ref C) "__setattr__" = some (some (.builtin "object.__setattr__"))
  ga : findIn K (.ref C) "__getattribute__" = some (some (.builtin "BaseException.__getattribute__"))
  gg : findIn K (.ref C) "__getattr__" = some none
  noN : findIn K (.ref C) "at" = some none
  iC : findIn K (.ref C) "__init__" = some (some (.ref f))
  kC : keepIn K (.ref C) = true
  exC : subIn K (.ref C) (.type "BaseException") = some true
  veC : subIn K (.ref C) (.type "ValueError") = some true
  tyC : typeIn K (.ref C) = some (.type "type")
  hdC : hasDictIn K C = true
  mB : mroIn K C (.ref B) = some true
  su : ks_superIn K C B "__init__" = some (some (.builtin "ValueError.__init__"))

theorem ne_meth (env : Env) (q1 q2 q3 q4 q5 : Pos) (hp : (q3.endLine == q5.line) = true) : ∃ pl : Sem Bool, eval (.Call (.Attribute (.Call (.Name "super" q1) [] [] q2) "__init__" q3) [.Name "at" q4] [] q5) env = (do
      let ov ← attributeBase (.Call (.Name "super" q1) [] [] q2) "__init__" env (eval (.Call (.Name "super" q1) [] [] q2) env)
      standAt q3.atName
      let (f, first) ← holding [ov] (getMethod ov "__init__" pl)
      callWith q5 f first (backTo q5 (starEach [.Name "at" q4] env)) []) := by
  have e1 : methodCallPos true (.Call (.Name "super" q1) [] [] q2) env q3 q5 = pure q5 := by
    unfold methodCallPos
    rw [hp]
    rfl
  refine ⟨(do return (← importBound (.Call (.Name "super" q1) [] [] q2) env).getD true), ?_⟩
  have e2 : ∀ ov, methodCall (.Call (.Name "super" q1) [] [] q2) "__init__" q3 q5 env ov 1 (backTo q5 (starEach [.Name "at" q4] env)) [] = (do
      let (f, first) ← holding [ov] (getMethod ov "__init__" (do return (← importBound (.Call (.Name "super" q1) [] [] q2) env).getD true))
      callWith q5 f first (backTo q5 (starEach [.Name "at" q4] env)) []) := fun ov => by
    unfold methodCall
    have e3 : methodCallForm 1 (backTo q5 (starEach [.Name "at" q4] env)) [] = true := by first | rfl | decide
    rw [e3, e1]
    rfl
  show (do
      let ov ← attributeBase (.Call (.Name "super" q1) [] [] q2) "__init__" env (eval (.Call (.Name "super" q1) [] [] q2) env)
      standAt q3.atName
      methodCall (.Call (.Name "super" q1) [] [] q2) "__init__" q3 q5 env ov 1 (backTo q5 (starEach [.Name "at" q4] env)) []) = _
  simp only [e2]
/-- a local name, read -/
theorem ne_local {M : Model} {A : Around} {E : Value → Shared → Prop} {s : Shared} {env : Env} {m : Str → Option Value} {x : Str} {pos : Pos} {v : Value} {Q : Value → Shared → Prop} (hn : s.heap.Ns env.locals m) (hv : m x = some v) (h : Q v s)
    (hk : env.scope.kind = .function) (hl : env.kindOf x = some .local) (hd : (x == ("__debug__" : Str)) = false) : wpAny M A (eval (.Name x pos) env) Q E s := wpAny_Name (wpAny_loadName_local hk hl hn hv h) hd
section
variable {prog : Program} {w : World} {A : Around} {E : Value → Shared → Prop} {h : Heap} {g : Array GenState} {d : Drawn} {t : Nat} {os : OsState}
/-- the bound built-in __init__, called -/
theorem ne_bound {nm q : Str} {C N : Addr} {bs bm : List Value} {hdct : Bool} {sn : List Str} {sub : List Value} {ab : Bool} {col : Option Bool} {dd : Option Addr} {k0 k1 k2 k3 k5 : Option Value} {u e t0 : Addr} {us : List Value} {Q : Value → Shared → Prop}
    (hC : h.get? C = some (excClassObj nm q C N bs bm hdct sn sub ab col dd k0 k1 k2 k3 k5 "ValueError.__new__")) (he : h.get? e = some (HandSPX.excO C t0)) (hu : h.get? u = some (kxs_mw "ValueError.__init__" e)) (hz : us.length ≤ sizeLine)
    (hq : ∀ h' t1, (∀ b o, b ≠ e → h.get? b = some o → h'.get? b = some o) → h'.get? e = some (HandSPX.excO C t1) → Q .none ⟨h', g, d, t, os⟩) :
    wpAny (model prog w) A (call (.ref u) us) Q E ⟨h, g, d, t, os⟩ := by
  refine wpAny_call (codeAny_of_tree (show wpAny _ A.in1 (callAny (.ref u) ⟨us, []⟩) _ _ _ from ?_))
  unfold callAny
  refine wpAny_bind (wpAny_load hu ?_)
  have c1 : (Value.type "method-wrapper" == Value.type "method" || Value.type "method-wrapper" == Value.type "builtin_function_or_method" || Value.type "method-wrapper" == Value.type "method-wrapper") = true := by decide
  simp only [kxs_mw, c1, if_true]
  refine KFB.if_so (by decide) (wpAny_bind ?_)
  refine check_bound_init F.excBase_ValueError.toExcCallFacts hC he rfl ?_
  refine wpAny_bind (wpAny_pure (wpAny_pure ⟨plainId_quiet F.excBase_ValueError.init.plain _, codeAny_builtin F.excBase_ValueError.initEntry ?_⟩))
  rw [Around.under_plainId F.excBase_ValueError.init.plain _]
  wp_walk
  refine hq _ h.objs.size (fun b o n z => ?_) ?_
  · rw [Heap.get?_update_other _ _ (Ne.symm n)]; exact Heap.get?_push_of_some _ z
  · rw [Heap.get?_update_self _ (Heap.get?_push_of_some _ he) rfl]; rfl
end
/-- what __init__ leaves of a fresh exception at x -/
structure NeEnd (h h' : Heap) (x C dx t1 : Addr) (v : Value) : Prop where
  keep : ∀ b o, b ≠ x → h.get? b = some o → h'.get? b = some o
  obj : h'.get? x = some { cls := .ref C, dict := some dx, data := .fields #[.ref t1, .none, .none, .none, .bool false, .none] }
  dbig : h.objs.size ≤ dx
  dne : dx ≠ x
  ns : h'.Ns1 dx (fun y => if y = "at" then some v else none)
section
variable {prog : Program} {w : World} {A : Around} {E : Value → Shared → Prop} {R : Result → Shared → Prop} {s : Shared} {K : Frag} {mg mb : Str → Option Value} {B f C : Addr}
theorem size_le {h h' : Heap} (k : ∀ b o, h.get? b = some o → h'.get? b = some o) {b : Addr} {o : Obj} (n : h'.get? b = some o) (q : ∀ b o, h.get? b = some o → b < h'.objs.size) : b < h'.objs.size := Heap.lt_size n
theorem net_init (T : NetB prog K mg B f) (TC : NetC K B f C) {x t0 : Addr} {v : Value} (X : K.In s.heap) (G : s.heap.Ns mainGlobals mg) (Gb : s.heap.Ns builtinsNs mb) (hb : mb "super" = some (.type "super")) (hlim : s.heap.NoLimit)
    (hx : s.heap.get? x = some (HandSPX.excO C t0)) (hnx : K.lookup x = none) (hroom : A.depth < recursionLimit) (hq : ∀ h' tk dx t1, NeEnd s.heap h' x C dx t1 v → R (.ok (.ret .none)) { s with heap := h', toks := tk }) :
    codeAny (model prog w) A (.call (.ref f) ⟨[.ref x, v], []⟩) R s := by
  obtain ⟨oc, od, kV, doc, pm, an, cda, ct, cc, osl, p1, p2, q1, q2, q3, q4, q5, q6, r1, r2, r3, r4, ho, hql, hcd, ⟨ccl, cdd, vs, ccs, file, tf, hcode, hvs, hfile⟩, cl, cld, csl, hcell⟩ := T.fn
  obtain ⟨nm, q, N, bs, bm, sn, sub, ab, col, dd, k0, k1, k2, k3, k5, hC, hbm⟩ := TC.cls
  obtain ⟨cdB, hB⟩ := T.cB
  have hcl : clsIn K C = some { name := nm, bases := bs, mro := .ref C :: bm, ns := N, qualname := q, hasDict := true, slotNames := sn, subclasses := sub, abstract := ab, collection := col, hasDel := false } := by unfold clsIn; rw [hC] <;> rfl
  refine ks_codeAny_call_defAt (fd := ksFn "__init__" "NetError.__init__" (neA p1 p2) (neB q1 q2 q3 q4 q5 q6 r1 r2 r3 r4) neS .none kV doc pm an (.ref cda) ct cc) (binds := [("self", .ref x), ("at", v)]) hroom (X _ _ ho) rfl hlim (codeRec_of X hcd) rfl
    (BindsTo.of_eq (by first | rfl | with_unfolding_all rfl)) (show ∀ y ∈ neS.names, y.2 ≠ .cell by decide) (locs rfl) (fun h₁ hns k => ?_) rfl rfl rfl
  have X₁ : K.In h₁ := X.keeps k
  have hx₁ := k _ _ hx
  have G₁ := G.keeps k
  have Gb₁ := Gb.keeps k
  have hL : s.heap.objs.size < h₁.objs.size := hns.lt
  have hxL : x < s.heap.objs.size := Heap.lt_size hx
  obtain ⟨oB, hoB, hoB2⟩ : ∃ oB, h₁.get? B = some oB ∧ oB.data = .cls cdB := by
    unfold clsIn at hB
    split at hB
    · rename_i c d cd' sl z
      cases hB
      exact ⟨_, X₁ _ _ z, rfl⟩
    · cases hB
  have I₁ : InstAt h₁ x (HandSPX.excO C t0) C none := ⟨hx₁, rfl, rfl, trivial⟩
  have hxC : x ≠ C := ks_ne X₁ I₁ hcl
  obtain ⟨hp0, g, d, tk, os⟩ := s
  generalize henv : callEnv (ksFn "__init__" "NetError.__init__" (neA p1 p2) (neB q1 q2 q3 q4 q5 q6 r1 r2 r3 r4) neS .none kV doc pm an (.ref cda) ct cc) hp0.objs.size f = env
  have henv' : env = ksEnv "NetError.__init__" neS hp0.objs.size f (.ref cda) cc := by rw [← henv]; rfl
  subst henv'
  obtain ⟨pl, hpl⟩ := ne_meth (ksEnv "NetError.__init__" neS hp0.objs.size f (.ref cda) cc) q1 q2 q3 q4 q5 hql
  refine ks_wpAt_execs_cons (ks_wpAt_Expr_any (ks_wpAt_MethodCall ?_ hpl))
  refine ks_wpAt_super_base (env := ksEnv "NetError.__init__" neS hp0.objs.size f (.ref cda) cc) (by first | rfl | with_unfolding_all rfl | kernel_rfl) (by first | rfl | with_unfolding_all rfl | kernel_rfl) (by decide) rfl (X₁ _ _ ho) rfl (ar := { arg := "self", annotation := none, pos := p1 }) rfl rfl (X₁ _ _ hcode) rfl hvs hfile T.top ?_
  refine ks_loadName_global rfl (by first | rfl | with_unfolding_all rfl | kernel_rfl) (loadGlobal_builtin G₁ T.sup Gb₁ hb ⟨rfl, ?_⟩)
  refine wpAny_loadName_free rfl (by first | rfl | with_unfolding_all rfl | kernel_rfl) (by first | rfl | with_unfolding_all rfl | kernel_rfl) ⟨_, X₁ _ _ hcell, rfl⟩ ?_
  refine wpAny_loadName_local rfl (by first | rfl | with_unfolding_all rfl | kernel_rfl) hns (v := .ref x) (by first | rfl | with_unfolding_all rfl | kernel_rfl) ?_
  refine ks_wpAny_isType_cls hoB hoB2 ⟨rfl, ?_⟩
  refine ks_wpAny_call_super hoB hoB2 hx₁ rfl (fun c e => by cases e) (looks_mroIn X₁ TC.mB) (fun h₂ e₂ k₂ => ?_)
  have X₂ : K.In h₂ := X₁.keeps k₂
  have hsu := TC.su
  unfold ks_superIn at hsu
  rw [hcl] at hsu
  have hI₂ : Looks (model prog w) h₂ (isInstance (.ref x) (.type "ValueError")) true := (show InstAt h₂ x (HandSPX.excO C t0) C none from ⟨k₂ _ _ hx₁, rfl, rfl, trivial⟩).type.andThen (looks_subIn X₂ TC.veC)
  refine kxs_getMethod kxs_ValueError e₂ (looks_opaque X₂ T.tp) (l₀ := .ref C :: bm) (fun A Q E s k q => wpAny_bind ((looks_clsIn X₂ hcl) A _ E s k (wpAny_pure q))) rfl X₂ hsu hI₂ hxC (by decide) ?_
  have hu₃ : (h₂.push (kxs_mw "ValueError.__init__" x)).get? h₂.objs.size = some (kxs_mw "ValueError.__init__" x) := Heap.get?_push_at rfl rfl
  have k₃ : ∀ b o, h₁.get? b = some o → (h₂.push (kxs_mw "ValueError.__init__" x)).get? b = some o := fun b o z => Heap.get?_push_of_some _ (k₂ b o z)
  refine kxs_callWith (i := "ValueError.__init__") (x := x) rfl (evalArgs_plain (spliced_cons (ne_local (hns.keeps k₃) (v := v) (by first | rfl | with_unfolding_all rfl | kernel_rfl) (spliced_nil ⟨hu₃, ?_⟩) rfl (by first | rfl | with_unfolding_all rfl | kernel_rfl) (by decide))))
  refine ne_bound (X₁.keeps k₃ _ _ hC) (k₃ _ _ hx₁) hu₃ (by rw [sizeLine_eq]; exact (by decide : 1 ≤ 16777216)) fun h₄ t1 k₄ hx₄ => ?_
  -- self.at = at
  have hk₄ : ∀ b o, b ≠ x → h₁.get? b = some o → h₄.get? b = some o := fun b o n z => k₄ b o n (k₃ b o z)
  have nLx : hp0.objs.size ≠ x := Nat.ne_of_gt hxL
  have hns₄ : h₄.Ns hp0.objs.size (fun y => ([("self", Value.ref x), ("at", v)] : List (Str × Value)).reverse.lookup y) := by
    obtain ⟨oL, es, ep, z, r⟩ := hns
    exact ⟨oL, es, ep, hk₄ _ _ nLx z, r⟩
  have X₄ : K.In h₄ := fun a o z => hk₄ a o (fun e => by rw [e] at z; exact absurd (hnx.symm.trans z) (fun y => nomatch y)) (X₁ _ _ z)
  refine ks_wpAt_execs_cons (ks_wpAt_Assign_Attr (wpAt_of_wpAny ?_) ?_)
  rotate_left
  · first | rfl | with_unfolding_all rfl
  refine ne_local hns₄ (v := v) (by first | rfl | with_unfolding_all rfl | kernel_rfl) ?_ rfl (by first | rfl | with_unfolding_all rfl | kernel_rfl) (by decide)
  refine ne_local hns₄ (v := .ref x) (by first | rfl | with_unfolding_all rfl | kernel_rfl) ?_ rfl (by first | rfl | with_unfolding_all rfl | kernel_rfl) (by decide)
  refine set_plain X₄ (ox := HandSPX.excO C t1) (od := none) ⟨hx₄, rfl, rfl, trivial⟩ TC.sa ?_
  refine HandSPX.exc_osa X₄ hx₄ hcl (show HandSPX.refsVE (.ref C :: bm) = true from hbm) rfl TC.noN (fun h₅ tk₅ dx k₅ dn dne hx₅ hn₅ => ?_)
  refine wpAt_of_wpAny (wpAny_execs_nil ?_)
  refine hq h₅ tk₅ dx t1 ⟨fun b o n z => k₅ b o n (hk₄ b o n (k b o z)), hx₅, ?_, dne, hn₅⟩
  have z : hp0.objs.size < h₄.objs.size := hns₄.lt
  exact Nat.le_of_lt (Nat.lt_of_lt_of_le z dn)
end
end DP
set_option Elab.async false
set_option linter.all false
set_option maxRecDepth 100000
/-! DP, part 26: own errors raised, and caught by several clauses `except C as e: return ..`. -/
namespace DP
open PySem PySem.Spec PyProof.Rows L2

/-- a made own error -/
structure NeMade (h h' : Heap) (e C d : Addr) (v : Value) : Prop where
  keep : ∀ b o, h.get? b = some o → h'.get? b = some o
  new : h.objs.size ≤ e
  obj : ∃ oe vs, h'.get? e = some oe ∧ oe.cls = .ref C ∧ oe.dict = some d ∧ oe.data = .fields vs ∧ vs[1]? = some .none
  dbig : h.objs.size ≤ d
  dne : d ≠ e
  ns : h'.Ns1 d (fun y => if y = "at" then some v else none)
section
variable {prog : Program} {w : World} {A : Around} {R : Result → Shared → Prop} {s : Shared} {K : PySem.W.Frag} {mg mb : Str → Option Value} {B f C : Addr}
theorem net_made (T : NetB prog K mg B f) (TC : NetC K B f C) {v : Value} (X : K.In s.heap) (G : s.heap.Ns mainGlobals mg) (Gb : s.heap.Ns builtinsNs mb) (hb : mb "super" = some (.type "super")) (hlim : s.heap.NoLimit)
    (hroom : A.depth + 1 < recursionLimit) (hq : ∀ h' tk e d, NeMade s.heap h' e C d v → R (.ok (.ret (.ref e))) { s with heap := h', toks := tk }) : codeAny (model prog w) A (.call (.ref C) ⟨[v], []⟩) R s := by
  obtain ⟨nm, q, N, bs, bm, sn, sub, ab, col, dd, k0, k1, k2, k3, k5, hC, hbm⟩ := TC.cls
  obtain ⟨hp, g, dr, tk, os⟩ := s
  have k : ∀ b o, hp.get? b = some o → ((hp.push (PySem.W.kdv_tup [v])).push (HandSPX.excO C hp.objs.size)).get? b = some o := fun _ _ e => Heap.get?_push_of_some _ (Heap.get?_push_of_some _ e)
  have hge : ((hp.push (PySem.W.kdv_tup [v])).push (HandSPX.excO C hp.objs.size)).get? (hp.objs.size + 1) = some (HandSPX.excO C hp.objs.size) := by heap_get
  have hnx : K.lookup (hp.objs.size + 1) = none := by
    cases e : K.lookup (hp.objs.size + 1) with
    | none => rfl
    | some o =>
      exact absurd (Heap.lt_size (show hp.get? (hp.objs.size + 1) = some o from X _ _ e)) (Nat.not_lt_of_le (Nat.le_succ _))
  have one : ([v] : List Value).length ≤ sizeLine := by rw [sizeLine_eq]; exact (by decide : 1 ≤ 16777216)
  refine HandSPX.call_own F.excBase_ValueError (fun Y => HandSPX.refsVE_contains Y bm hbm) (X _ _ hC) (PySem.W.looks_findIn X TC.iC) (fun self => PySem.W.bind_fn X self T.tI) one ?_
  refine net_init (s := ⟨(hp.push (PySem.W.kdv_tup [v])).push (HandSPX.excO C hp.objs.size), g, dr, tk, os⟩) T TC (X.keeps k) (G.keeps k) (Gb.keeps k) hb (hlim.keeps k) hge hnx ?_ fun h' tk' dx t1 E => ?_
  · show A.depth + 1 < recursionLimit; exact hroom
  · have sz : ((hp.push (PySem.W.kdv_tup [v])).push (HandSPX.excO C hp.objs.size)).objs.size = hp.objs.size + 2 := by simp [Heap.size_push]
    have z := E.dbig
    rw [sz] at z
    exact ⟨rfl, hq h' tk' (hp.objs.size + 1) dx ⟨fun b o y => E.keep b o (Nat.ne_of_lt (Nat.lt_succ_of_lt (Heap.lt_size y))) (k b o y), Nat.le_succ _, ⟨_, _, E.obj, rfl, rfl, rfl, rfl⟩, Nat.le_trans (Nat.le_add_right hp.objs.size 2) z, E.dne, E.ns⟩⟩
end
theorem boot_super : bootBuiltins "super" = some (.type "super") := by first | rfl | kernel_rfl | boot_by_name
theorem rel_at {v : V} {u : Value} (r : RelV v u) (y : Str) : RelO (List.lookup y [(("at" : Str), v)]) (if y = "at" then some u else none) := by
  by_cases hw : y = "at"
  · subst hw; simp only [if_true, List.lookup, beq_self_eq_true]; exact r
  · have qw : (y == ("at" : Str)) = false := by simpa using hw
    simp only [if_neg hw, List.lookup, qw]; trivial
def tMkNet (C : Addr) (ta : TA) : L2.St → Hp → XK → Prop := fun σ H Q => ta σ H fun vs H1 => ∃ v, vs = [v] ∧ ∀ d, H1 d = none → Q (.ref C) (some d) (upd H1 d (.xd [(("at" : Str), v)]))
section
variable {X : Cx} {B f C : Addr}
theorem pmk_net {x : Str} {a : Expr} {ta : TA} {p pos : Pos} {k : Nat} (T : NetB X.prog X.K X.mg B f) (TC : NetC X.K B f C) (gC : X.mg x = some (.ref C)) (hr : Room k X.A) (ha : PA X [a] ta) (hg : Gl X x) (hdb : (x == ("__debug__" : Str)) = false := by decide)
    (he : starEach (a :: []) X.env = (false, eval a X.env) :: starEach [] X.env := by rfl) (hpl : (backTo pos (starEach [] X.env)).any (·.1) = false := by rfl) : PMk X (.Call (.Name x p) [a] [] pos) (tMkNet C ta) := by
  intro pins s σ H Q I h
  refine wpAny_Call_Name_kw (ld_glob I hg gC ?_ hdb)
  refine PySem.W.callWith_K (h₀ := X.base) I.ok.mod.kin TC.kC (thn (ha.run pos pins s σ H _ I h) fun us s1 ⟨vs, H1, I1, r1, v, ev, q1⟩ => ⟨I1.kIn, ?_⟩) he hpl
  subst ev
  cases r1 with
  | @cons _ v' _ us' rv rn =>
    cases rn
    have hlim := I1.nolimit
    obtain ⟨mb, hb1, hb2⟩ := I1.mod.blt
    have G1 := I1.mod.glob.keeps I1.bk
    have Gb1 := hb1.keeps I1.bk
    have hb := (hb2 "super" (by decide)).trans boot_super
    obtain ⟨hp, g, dr, tk, os⟩ := s1
    refine wpAny_call (net_made T TC I1.kIn G1 Gb1 hb hlim (by have := hr.dp; omega) fun h' tk' e d M => (show MkP X pins σ Q (.ref e) ⟨h', g, dr, tk', os⟩ from ?_))
    obtain ⟨oe, fv, hoe, hc, hd, hdat, h1⟩ := M.obj
    obtain ⟨G', g1, g2⟩ := restrict h' fun b => decide (b ≠ e)
    have gk : ∀ b, b ≠ e → G'.get? b = h'.get? b := fun b hb => g1 b (decide_eq_true hb)
    have ge : G'.get? e = none := g2 e (by simp)
    have old : ∀ b o, hp.get? b = some o → G'.get? b = some o := fun b o q => (gk b (Nat.ne_of_lt (Nat.lt_of_lt_of_le (Heap.lt_size q) M.new))).trans (M.keep b o q)
    have ob : ObjOk X.prog X.w (upd H1 d (.xd [(("at" : Str), v)])) G' d (.xd [(("at" : Str), v)]) := ⟨_, M.ns.at (fun o q => (gk d M.dne).trans q), rel_at rv⟩
    have J : Inv X pins σ (upd H1 d (.xd [(("at" : Str), v)])) ⟨G', g, dr, tk', os⟩ := I1.laid (t' := tk') old M.dbig ob
    refine ⟨e, oe, fv, ⟨G', g, dr, tk', os⟩, _, .ref C, some d, rfl, J, fun b o q => ?_, ge, hoe, ⟨hc, hd⟩, hdat, h1, ?_, rfl, I1.bare, raises_own TC.exC TC.tyC, q1 d (I1.hok.fresh M.dbig)⟩
    · by_cases hb : b = e
      · rw [hb] at q; exact absurd (ge.symm.trans q) (fun z => nomatch z)
      · exact (gk b hb).symm.trans q
    · rw [upd_ne (Ne.symm M.dne)]; exact I1.hok.fresh M.new
/-- raise C(a) -/
def sRaise (x : Str) (f : XF) : SF := fun env => (f env).bind fun r => .exc x r.1 r.2
theorem es_raise {Wx : WX} {x : Str} {a : Expr} {g : XF} {p pos pos2 : Pos} {k : Nat} (T : NetB X.prog X.K X.mg B f) (TC : NetC X.K B f C) (gC : X.mg x = some (.ref C)) (hc : X.calm = true) (hr : Room k X.A) (tk : Takes X Wx) (ha : EX X Wx a g) (hg : Gl X x)
    (hdb : (x == ("__debug__" : Str)) = false := by decide) (he : starEach (a :: []) X.env = (false, eval a X.env) :: starEach [] X.env := by rfl) (hpl : (backTo pos (starEach [] X.env)).any (·.1) = false := by rfl) :
    ES X Wx (.Raise (some (.Call (.Name x p) [a] [] pos)) none pos2) (sRaise x g) := by
  have m := pmk_net (p := p) (pos := pos) T TC gC hr (ea_cons ha ea_nil he) hg hdb he hpl
  refine PS.wk (ps_raise (pos := pos2) hc tk m) ?_
  rintro D σ H ⟨ρ, W, env, A, S, h⟩
  unfold sRaise at h
  refine ⟨ρ, W, env, A, S, ?_⟩
  unfold aCons aNil
  cases e : g env with
  | bad => rw [e] at h; exact h.elim
  | exc c d e' =>
    rw [e] at h
    exact fun C W' H' A' dx v q S' F' x r' => h C W' H' A' _ dx v q S' F' x r'
  | ok r =>
    obtain ⟨d, e1⟩ := r
    rw [e] at h
    simp only [Out.bind_ok] at h ⊢
    intro W1 H1 A1 vs S1 F1 r1
    simp only [RepL] at r1
    obtain ⟨v, _, rfl, r1, rfl⟩ := r1
    refine ⟨v, rfl, fun dx n => ?_⟩
    have E := Ex.junk (o := .xd [(("at" : Str), v)]) S1.sub n
    exact h C W1 _ A1 σ dx v gC (S1.ex E) (F1.trans (E.fr _)) upd_same (Rep.mono E.ext d v r1)
end
end DP
set_option Elab.async false
set_option linter.all false
set_option maxRecDepth 100000
/-! DP, part 27: several clauses `except C as e: suite`. -/
namespace DP
open PySem PySem.Spec PyProof.Rows L2

abbrev TSu := Addr → Value → Option Addr → TS
/-- what is wanted behind a suite: its name is gone -/
def offName (i : Nat) (D : Ends) : Ends := { nx := fun σ' H' => D.nx (σ'.set i none) H', rt := D.rt, bk := fun σ' H' => D.bk (σ'.set i none) H', ct := fun σ' H' => D.ct (σ'.set i none) H' }
/-- what the clauses want of an exception of the body -/
def wAll (K : PySem.W.Frag) (Wout : WX) (D : Ends) : List (Value × Nat × TSu) → WX
  | [] => Wout
  | (c, i, ts) :: r => fun cls d σ H => ∃ b, PySem.W.exmOne K cls c = some b ∧ (b = true → ∀ a, H a = none → ts a cls d (offName i D) (σ.set i (some (.ref a))) H) ∧ (b = false → wAll K Wout D r cls d σ H)
inductive HdA (X : Cx) : List ExceptHandler → List (Value × Nat × TSu) → Prop
  | nil : HdA X [] []
  | cons {x n : Str} {i : Nat} {c : Value} {ts : TSu} {b₀ : Stmt} {su : List Stmt} {np pos' : Pos} {hds : List ExceptHandler} {l : List (Value × Nat × TSu)} (hi : X.N[i]? = some n) (hl : X.env.kindOf n = some .local) (hc : Names X x c)
      (hsu : ∀ (a : Addr) (oe : Obj) (cls : Value) (d : Option Addr) (pn : List (Addr × Obj)), Zc cls d oe → (∃ vs, oe.data = .fields vs) → PSs (X.suite a ((a, oe) :: pn)) (b₀ :: su) (ts a cls d)) (r : HdA X hds l) :
      HdA X (.ExceptHandler (some (.Name x np)) (some n) (b₀ :: su) pos' :: hds) ((c, i, ts) :: l)
section
variable {X : Cx} {body : List Stmt} {h₀ : ExceptHandler} {hds : List ExceptHandler} {l : List (Value × Nat × TSu)} {pos : Pos} {tb : WX → TS} {Wout : WX}
theorem ps_try_all (hs : X.stack = X.env :: X.outer) (hf : X.env.frame = some X.env.locals) (hN : X.N.Nodup) (tk : Takes X Wout)
    (hb : ∀ (W : WX) (pn : List (Addr × Obj)) (xe : Value → Shared → Prop), Takes (X.tr pn xe) W → PassesOwn (model X.prog X.w) X.A X.env xe → PSs (X.tr pn xe) body (tb W))
    (hh : HdA X (h₀ :: hds) l) : PS X (.Try body (h₀ :: hds) [] [] pos) (fun D σ H => tb (wAll X.K Wout D l) D σ H) := by
  refine ⟨fun pins s σ H D I h => ?_⟩
  have ok := I.ok
  have hfr : X.A.frames = some (X.env :: X.outer) := by rw [ok.frames, hs]
  refine wpAny_Try_except (wpAny_mono ((hb (wAll X.K Wout D l) (X.pn ++ pins) (fun e z₁ => wpAny (model X.prog X.w) X.A (noteFrame e X.env) (fun _ z₂ => wpAny (model X.prog X.w) X.A (setFlight e none)
    (fun _ z₃ => wpAny (model X.prog X.w) X.A (handleBy e X.env (h₀ :: hds)) (SP X pins D) X.xe z₃) X.xe z₂) X.xe z₁) (fun u s' air => ?_) PassesOwn.looking).run [] s σ H D (I.toTry _) h) (fun fl s1 fin => ?_) fun _ _ z => z)
  · -- caught
    obtain ⟨a, Bh, sI, pins', σ', H', cls, d, rfl, J', nb, up, sky, na, os, ag, want⟩ := air
    have J := J'.ofTry ok
    have sky' : Sky Bh (X.env :: X.outer) a (Zc cls d) X.env.locals s'.heap := hs ▸ sky
    refine (Sky.land Zc.steady hfr hf sky' fun g3 f3 u3 => ?_ : wpAny (model X.prog X.w) X.A (noteFrame (.ref a) X.env) _ _ _)
    have J3 : Inv X pins σ' H' { s' with heap := g3 } := J.landed nb f3.1 (up.trans u3) os ag
    obtain ⟨o3, v3, he3, hz3, hd3⟩ := f3.there
    have away : a ∉ frs (X.env :: X.outer) := fun hm => by
      obtain ⟨_, o', e', nf⟩ := f3.2.2.1.mem hm
      rw [he3] at e'; cases e'
      exact nf _ hd3
    have nL : a ≠ X.env.locals := fun z => away (List.mem_filterMap.mpr ⟨X.env, List.mem_cons_self, by rw [hf, z]⟩)
    have nF : a ∉ X.fs := fun hm => by
      obtain ⟨y, hy, q⟩ := List.mem_filterMap.mp hm
      exact away (List.mem_filterMap.mpr ⟨y, List.mem_cons_of_mem _ hy, q⟩)
    have S3 := J3.suite he3 hd3 na nL nF
    have go : ∀ {hs' : List ExceptHandler} {l' : List (Value × Nat × TSu)}, HdA X hs' l' → wAll X.K Wout D l' cls d σ' H' → wpAny (model X.prog X.w) X.A (handleBy (.ref a) X.env hs') (SP X pins D) X.xe { s' with heap := g3 } := by
      intro hs' l' hk
      induction hk with
      | nil =>
        intro want
        obtain ⟨_, _, _, oe, vs, T, oT, ts', he, hz, hd, h1, _⟩ := id f3
        have last : wpAny (model X.prog X.w) X.A (setFlight (.ref a) X.env.frame) (fun _ s4 => wpAny (model X.prog X.w) X.A (throw (.ref a) : Sem Flow) (SP X pins D) X.xe s4) X.xe { s' with heap := g3 } := by
          rw [hf]
          exact HandSPX.setFlight_upZ f3 fun g4 hh4 u4 => wpAny_throw (tk _ _ ⟨a, Bh, sI, pins, σ', H', cls, d, rfl, J, nb, (up.trans u3).trans u4, .inr (.inr (by rw [hs]; exact hh4)), na, os, ag, want⟩)
        refine wpAny_handleBy_nil ?_
        unfold PySem.passOn
        refine wpAny_bind (wpAny_field he hd h1 ?_)
        rw [if_neg (by simp : ¬ ((Value.ref T == Value.none) = true))]
        first
          | exact wpAny_bind (wpAny_pure (wpAny_bind last))
          | exact wpAny_bind last
      | @cons x n i c ts b₀ su np pos' hds2 l2 hi hl hc hsu r ih =>
        intro want
        obtain ⟨b, hb1, yes, no⟩ := want
        have LT : PySem.W.Looks (model X.prog X.w) g3 (typeOf (.ref a)) cls := fun _ _ _ _ k q => wpAny_typeOf_ref (k _ _ he3) (by rw [hz3.1]; exact q)
        have LM := PySem.W.exm_one (M := model X.prog X.w) J3.kIn LT hb1
        have name : ∀ {Q : Value → Shared → Prop} {E : Value → Shared → Prop}, Q c { s' with heap := g3 } → wpAny (model X.prog X.w) (X.A.mark (some (.ref a))) (eval (.Name x np) X.env) Q E { s' with heap := g3 } := fun q => by
          obtain ⟨hg, hdbg, hm | ⟨hm, hv, hnn⟩⟩ := hc
          · exact ld_glob (X := X.suite a ((a, o3) :: (X.pn ++ pins))) S3 hg hm q hdbg
          · exact ld_blt (X := X.suite a ((a, o3) :: (X.pn ++ pins))) S3 hg hm hv q hnn hdbg
        refine wpAny_handleBy_cons (codeAny_handlers_test (name (LM.here ?_))) (fun q => by cases q)
        cases b with
        | false => exact (ih (no rfl) : wpAny _ X.A (handleBy (.ref a) X.env hds2) _ _ _)
        | true =>
          refine codeAny_handlers_suite_as (HandSPX.lands_againZ f3 fun g4 f4 u4 => ?_)
          have J4 : Inv X pins σ' H' { s' with heap := g4 } := J.landed nb f4.1 ((up.trans u3).trans u4) os ag
          obtain ⟨o4, v4, he4, hz4, hd4⟩ := f4.there
          refine store_ok (X := X.suite a ((a, o4) :: (X.pn ++ pins))) (v := .ref a) (J4.suite he4 hd4 na nL nF) hN hi (.inl hl) rfl (fun s5 S5 => ?_) (.inr hl)
          have off : ∀ {σ6 : L2.St} {H6 : Hp} {s6 : Shared} {Q : Shared → Prop}, Inv (X.suite a ((a, o4) :: (X.pn ++ pins))) [] σ6 H6 s6 → (∀ s7, Inv X pins (σ6.set i none) H6 s7 → Q s7) →
              wpAny (model X.prog X.w) X.A (do bindName X.env n .none; unbindBehindTheSuite X.env n pos') (fun _ s7 => Q s7) X.xe s6 := fun S6 hq => gone_ok (S6.unsuite ok) hN hi hl hq
          refine wpAny_mono ((hsu a o4 cls d (X.pn ++ pins) hz4 ⟨_, hd4⟩).run [] s5 _ H' _ S5 (yes rfl a na)) (fun fl s6 fin => ?_) (fun _ _ z => False.elim z)
          cases fl with
          | ret u =>
            obtain ⟨v6, σ6, H6, S6, r6, q6⟩ := fin
            exact off S6 fun s7 J7 => ⟨_, _, _, J7, r6, q6⟩
          | next =>
            obtain ⟨σ6, H6, S6, q6⟩ := fin
            exact off S6 fun s7 J7 => ⟨_, _, J7, q6⟩
          | brk =>
            obtain ⟨σ6, H6, S6, q6⟩ := fin
            exact off S6 fun s7 J7 => ⟨_, _, J7, q6⟩
          | cont =>
            obtain ⟨σ6, H6, S6, q6⟩ := fin
            exact off S6 fun s7 J7 => ⟨_, _, J7, q6⟩
    exact go hh want
  · cases fl with
    | ret u => exact let ⟨v, σ', H', J', r, q⟩ := fin; ⟨v, σ', H', J'.ofTry ok, r, q⟩
    | next => exact let ⟨σ', H', J', q⟩ := fin; wpAny_execs_nil ⟨σ', H', J'.ofTry ok, q⟩
    | brk => exact let ⟨σ', H', J', q⟩ := fin; ⟨σ', H', J'.ofTry ok, q⟩
    | cont => exact let ⟨σ', H', J', q⟩ := fin; ⟨σ', H', J'.ofTry ok, q⟩
end
end DP
set_option Elab.async false
set_option linter.all false
set_option maxRecDepth 100000
/-! DP, part 28: try .. except C as e: return e.at, or return (word, e.at). -/
namespace DP
open PySem PySem.Spec PyProof.Rows L2

/-- a clause: the name's slot, the classes that it takes, those that it lets by, what it returns -/
structure Hd where
  i : Nat
  ys : List Str
  ns : List Str
  k : D → D
def catchs : List Hd → Str → D → Ev → Out (Fl × Ev)
  | [], c, d, e => .exc c d e
  | h :: r, c, d, e => if h.i < e.length then (if h.ys.contains c then .ok (.rt (h.k d), e) else if h.ns.contains c then catchs r c d e else .bad) else .bad
def sTry (b : SF) (hs : List Hd) : SF := fun env => match b env with
  | .exc c d e => catchs hs c d e
  | .ok r => .ok r
  | .bad => .bad
/-- what a suite has at hand -/
def wSu (K : PySem.W.Frag) (w : World) (k : D → D) (i : Nat) : TSu := fun a cls d Dn σ H => ∃ B f C dd v W dat, cls = .ref C ∧ NetC K B f C ∧ d = some dd ∧ H dd = some (.xd [(("at" : Str), v)]) ∧ σ[i]? = some (some (.ref a)) ∧ Same W H ∧ Rep K w W dat v ∧
  ∀ W' H' u, Ex W H W' H' → Rep K w W' (k dat) u → Dn.rt u H'
def Su (X : Cx) (i : Nat) (st : List Stmt) (k : D → D) : Prop := ∀ (a : Addr) (oe : Obj) (cls : Value) (d : Option Addr) (pn : List (Addr × Obj)), Zc cls d oe → (∃ vs, oe.data = .fields vs) → PSs (X.suite a ((a, oe) :: pn)) st (wSu X.K X.w k i a cls d)
section
variable {X : Cx} {a : Addr} {oe : Obj} {cls : Value} {d : Option Addr} {pn : List (Addr × Obj)} {e : Expr} {te : TE} {pos : Pos}
/-- e.at -/
theorem pe_eAt (hz : Zc cls d oe) (hf : ∃ vs, oe.data = .fields vs) (he : PE (X.suite a ((a, oe) :: pn)) e te) (hb : attributeBase e "at" X.env (eval e X.env) = eval e X.env := by rfl) :
    PE (X.suite a ((a, oe) :: pn)) (.Attribute e "at" pos) (fun σ H Q => te σ H fun x H1 => x = .ref a ∧ ∃ B f C dd v, cls = .ref C ∧ NetC X.K B f C ∧ d = some dd ∧ H1 dd = some (.xd [(("at" : Str), v)]) ∧ Q v H1) := by
  refine ⟨fun pins s σ H Q I h => attr_of hb (thn (he.run pins s σ H _ I h) fun u s1 ⟨x, H1, I1, rx, ex, B, f, C, dd, v, ec, T, ed, ea, q⟩ => ?_)⟩
  subst ex ec ed
  obtain rfl : u = Value.ref a := rx
  obtain ⟨ha, _⟩ := I1.pin (a, oe) (List.mem_append_left _ List.mem_cons_self)
  obtain ⟨vs, hd⟩ := hf
  obtain ⟨mA, hns, hr⟩ := (I1.hok dd _ ea : ObjOk X.prog X.w H1 s1.heap dd (.xd [(("at" : Str), v)]))
  obtain ⟨od, ho, hl⟩ := lookIn_ns hns
  have l : List.lookup ("at" : Str) [(("at" : Str), v)] = some v := by simp [List.lookup]
  obtain ⟨u, hu, ru⟩ := RelO.some_of (v := v) (o := mA "at") (by rw [← l]; exact hr "at")
  refine HandSPX.exc_get I1.kIn (od := some od) ⟨ha, hz.1, by unfold PySem.W.notCls; rw [hd] <;> rfl, by rw [hz.2]; exact ho⟩ T.ga T.gg T.exC (PySem.W.findObj_own T.hdC T.noN rfl (by rw [hl, hu])) (handed_of ru) ⟨v, H1, I1.tok _, ru, q⟩
end
section
variable {X : Cx} {i : Nat} {n : Str} {p1 p2 p3 p4 p5 : Pos} {k0 j0 : Nat} {y : Str}
theorem su_at (hv : PE X (.Name n p1) (tVar i)) (pv : ∀ a oe pn, PE (X.suite a ((a, oe) :: pn)) (.Name n p1) (tVar i)) : Su X i [.Return (some (.Attribute (.Name n p1) "at" p2)) p3] (fun d => d) := by
  intro a oe cls d pn hz hf
  refine PSs.wk (pss_one (ps_ret (pe_eAt hz hf (pv a oe pn) rfl))) ?_
  rintro Dn σ H ⟨B, f, C, dd, v, W, dat, e1, e2, e3, e4, e5, e6, e7, e8⟩
  exact ⟨_, e5, rfl, B, f, C, dd, v, e1, e2, e3, e4, e8 W H v (Ex.refl e6) e7⟩
theorem su_pair (pv : ∀ a oe pn, PE (X.suite a ((a, oe) :: pn)) (.Name n p1) (tVar i)) :
    Su X i [.Return (some (.Tuple [.Constant (.str y) j0 p4, .Attribute (.Name n p1) "at" p2] k0 p5)) p3] (fun d => .tuple [.str y, d]) := by
  intro a oe cls d pn hz hf
  refine PSs.wk (pss_one (ps_ret (pe_tup (pa_cons pe_str (pa_cons (pe_eAt hz hf (pv a oe pn) rfl) pa_nil rfl) rfl)))) ?_
  rintro Dn σ H ⟨B, f, C, dd, v, W, dat, e1, e2, e3, e4, e5, e6, e7, e8⟩
  refine ⟨_, e5, rfl, B, f, C, dd, v, e1, e2, e3, e4, ?_, fun p n => ?_⟩
  · rw [sizeLine_eq]; exact (by decide : 2 ≤ 16777216)
  · have E := Ex.one (o := .tup [.str y, v]) e6 n
    refine e8 _ _ _ E ?_
    simp only [Rep]
    exact ⟨p, _, rfl, .of upd_same, RepL.cons (by simp only [Rep]) (RepL.cons (Rep.mono E.ext dat v e7) RepL.nil)⟩
end
inductive HdD (X : Cx) : List ExceptHandler → List Hd → List (Value × Nat × TSu) → Prop
  | nil : HdD X [] [] []
  | cons {x n : Str} {i : Nat} {c : Value} {ys ns : List Str} {k : D → D} {b₀ : Stmt} {su : List Stmt} {np pos' : Pos} {hds : List ExceptHandler} {hs : List Hd} {l : List (Value × Nat × TSu)} (hi : X.N[i]? = some n) (hl : X.env.kindOf n = some .local) (hc : Names X x c)
      (hys : ∀ y ∈ ys, ∃ B f C, X.mg y = some (.ref C) ∧ NetC X.K B f C ∧ PySem.W.exmOne X.K (.ref C) c = some true) (hns : ∀ y ∈ ns, ∃ C, X.mg y = some (.ref C) ∧ PySem.W.exmOne X.K (.ref C) c = some false)
      (hsu : Su X i (b₀ :: su) k) (r : HdD X hds hs l) : HdD X (.ExceptHandler (some (.Name x np)) (some n) (b₀ :: su) pos' :: hds) (⟨i, ys, ns, k⟩ :: hs) ((c, i, wSu X.K X.w k i) :: l)
section
variable {X : Cx} {Wx : WX} {body : List Stmt} {h₀ : ExceptHandler} {hds : List ExceptHandler} {hs : List Hd} {l : List (Value × Nat × TSu)} {pos : Pos} {b : SF}
theorem HdD.hdA (h : HdD X hds hs l) : HdA X hds l := by
  induction h with
  | nil => exact .nil
  | cons hi hl hc _ _ hsu _ ih => exact .cons hi hl hc (fun a oe cls d pn => hsu a oe cls d pn) ih
theorem HdD.want {ρ : Nat → Addr} {W H W' H' : Hp} {A A' : List (List Addr)} {c : Str} {d : D} {e : Ev} {Dn : Ends} {C dx : Addr} {σ' : L2.St} {v : V} (gC : X.mg c = some (.ref C)) (S : SR X.K X.w ρ W' H' e σ' A') (F : Fr W H (ownd A) W' H' (ownd A'))
    (hx : H' dx = some (.xd [(("at" : Str), v)])) (r : Rep X.K X.w W' d v) (h : HdD X hds hs l) : onS X Wx ρ W H A (catchs hs c d e) Dn → wAll X.K Wx Dn l (.ref C) (some dx) σ' H' := by
  induction h with
  | nil => exact fun q => q C W' H' A' σ' dx v gC S F hx r
  | @cons x n i c' ys ns k b₀ su np pos' hds hs l hi hl hc hys hns hsu _ ih =>
    intro q
    unfold catchs at q
    split at q
    · rename_i lt
      split at q
      · rename_i y
        obtain ⟨B, f, C', g1, T, x1⟩ := hys c (by simpa using y)
        rw [gC] at g1; cases g1
        refine ⟨true, x1, fun _ a n => ?_, fun z => nomatch z⟩
        refine ⟨B, f, C, dx, v, W', d, rfl, T, rfl, hx, List.getElem?_set_self (by rw [← S.le]; exact lt), S.sub, r, fun W2 H2 u E ru => ?_⟩
        exact q W2 H2 A' σ' (S.ex E) (F.trans (E.fr _)) u ru
      · split at q
        · rename_i y
          obtain ⟨C', g1, x1⟩ := hns c (by simpa using y)
          rw [gC] at g1; cases g1
          exact ⟨false, x1, (fun z => nomatch z), fun _ => ih q⟩
        · exact q.elim
    · exact q.elim
theorem es_try (hs1 : X.stack = X.env :: X.outer) (hf : X.env.frame = some X.env.locals) (hN : X.N.Nodup) (tk : Takes X Wx)
    (hb : ∀ (W : WX) (pn : List (Addr × Obj)) (xe : Value → Shared → Prop), Takes (X.tr pn xe) W → PassesOwn (model X.prog X.w) X.A X.env xe → EB (X.tr pn xe) W body b)
    (hh : HdD X (h₀ :: hds) hs l) : ES X Wx (.Try body (h₀ :: hds) [] [] pos) (sTry b hs) := by
  refine PS.wk (ps_try_all (tb := fun W => tS X W b) hs1 hf hN tk hb hh.hdA) ?_
  rintro Dn σ H ⟨ρ, W, env, A, S, h⟩
  refine ⟨ρ, W, env, A, S, ?_⟩
  unfold sTry at h
  cases e : b env with
  | bad => rw [e] at h; exact h.elim
  | ok r => rw [e] at h; exact h
  | exc c d e' =>
    rw [e] at h
    exact fun C W' H' A' σ' dx v g S' F' x r' => hh.want g S' F' x r' h
end
end DP
set_option Elab.async false
set_option linter.all false
set_option maxRecDepth 100000
/-! DP, part 29: set(xs) of a list of ints; sorted(set(xs)) of it. -/
namespace DP
open PySem PySem.Spec PyProof.Rows L2
/-- an empty set, just made -/
abbrev set0 (w : World) : Obj := { cls := .type "set", dict := none, data := .set #[] 0 (.fresh 0 0 (!w.params.followText "set-order")) }
section
variable {P : Program} {w : World} {A : Around} {E : Value → Shared → Prop} {s : Shared}
set_option maxHeartbeats 3200000 in
theorem set_lstI {l : Addr} {its : Array Value} (ns : List Int) {Q : Value → Shared → Prop} (calm : A.handled = none) (hl : s.heap.IsList l its) (hi : IntsAre its.toList ns) (hb : ns.length + 1 < scanBound)
    (h : ∀ (h' : Heap) (tk c : Nat), SetR w h' s.heap.objs.size (fun j => decide (j ∈ ns)) c → c ≤ ns.length → (∀ b o, s.heap.get? b = some o → h'.get? b = some o) → Q (.ref s.heap.objs.size) { s with heap := h', toks := tk }) :
    wpAny (model P w) A (call (.type "set") [.ref l]) Q E s := by
  have len : its.size = ns.length := by rw [← Array.length_toList]; exact IntsAre.length hi
  obtain ⟨c, tl, hmro⟩ := F.called_set.mro
  have hmade := F.called_set.made; have hsub := F.called_set.sub; have h1 := F.called_set.notType; have h2 := F.called_set.canCreate; have hct := F.typeCall_set_1 (.ref l)
  refine wpAny_call (codeAny_of_tree (show wpAny _ _ (callAny (.type "set") _) _ _ _ from wpAny_pure ⟨Code.quiet_builtin _ (by decide +kernel), codeAny_builtin F.entry_type_call ?_⟩))
  rw [Around.under_plain (weight_type_call_type "set" [.ref l] []) rfl]
  repeat (any_goals (first | assumption | wp_step))
  refine codeAny_mono (code_set_led1 (.ref l) (E := E) (Q₁ := fun ob z => ob = .ref s.heap.objs.size ∧ z = { s with heap := s.heap.push (set0 w) }) ⟨rfl, rfl⟩) fun r z hr => ?_
  cases r with
  | error e => exact hr
  | ok fl =>
    cases fl with
    | ret ob =>
      obtain ⟨rfl, rfl⟩ := hr
      have g0 : (s.heap.push (set0 w)).get? s.heap.objs.size = some (set0 w) := Heap.get?_push_size _ rfl
      have ty : Shared.TypeIs { s with heap := s.heap.push (set0 w) } (.ref s.heap.objs.size) "set" := ⟨_, g0, rfl⟩
      have hli := F.called_set.init.lookup; have hbi := F.called_set.init.bind (.ref s.heap.objs.size)
      repeat (any_goals (first | assumption | wp_step))
      refine codeAny_mono (codeAny_call_builtin (R := wants (fun r z₂ => r = .none ∧ ∃ h' tk c, z₂ = { s with heap := h', toks := tk } ∧ SetR w h' s.heap.objs.size (fun j => decide (j ∈ ns)) c ∧ c ≤ ns.length ∧ (∀ b o, s.heap.get? b = some o → h'.get? b = some o)) E)
        F.called_set.init.plain F.entry_set_init (check_set_init_1 ty ?_)) fun r₂ z₂ hr₂ => ?_
      · obtain ⟨⟨ocls, odict, odata, oslots⟩, hol, hcl, nl, hdl⟩ := hl
        simp only at hcl hdl
        subst hcl hdl
        have hol' : (s.heap.push (set0 w)).get? l = some ⟨.type "list", odict, .seq its nl, oslots⟩ := Heap.get?_push_of_some _ hol
        have hsls := F.sub_list_set; have hslf := F.sub_list_frozenset
        have hne : (Value.type "list" == Value.type "dict") = false := by decide
        have il : (s.heap.push (set0 w)).IsList l its := ⟨_, hol', rfl, nl, rfl⟩
        unfold Builtin.«set.__init__» noKeywords Builtin.Frozenset.updateFrom
        generalize hPI : pyIter = PI
        wp_walk
        subst hPI
        refine wpAny_pyIter_list il (wpAny_bind (wpAny_runValue ?_))
        have lt : l < s.heap.objs.size := Heap.lt_size hol
        have calm3 : A.in1.in1.in1.handled = none := by simp [calm]
        have away : l ≠ (s.heap.push (set0 w)).objs.size := by rw [Heap.size_push]; exact Nat.ne_of_lt (Nat.lt_succ_of_lt lt)
        have notIn : s.heap.objs.size ∉ [(s.heap.push (set0 w)).objs.size, l] := by
          rw [Heap.size_push]; intro q; rcases List.mem_cons.mp q with q | q
          · exact Nat.ne_of_lt (Nat.lt_succ_self _) q
          · exact Nat.ne_of_gt lt (List.mem_singleton.mp q)
        have val : ∀ (i : Nat) (v : Value), its[i]? = some v → ∃ k t, ns[i]? = some k ∧ v = .int k t := fun i v hv => by
          have lt' : i < ns.length := by rw [← len]; exact (Array.getElem?_eq_some_iff.mp hv).1
          obtain ⟨t, e⟩ := PyProof.Rows.IntsAre.int_at hi i v (by rw [Array.getElem?_toList]; exact hv)
          exact ⟨ns[i], t, List.getElem?_eq_getElem lt', by rw [e, List.getD_eq_getElem?_getD, List.getElem?_eq_getElem lt'] <;> rfl⟩
        refine set_update_ints ((Walks.list calm3 _ l away its).toS) s.heap.objs.size notIn ns len hb val (its.size - 0) 0 _ (by omega) (Nat.zero_le _) ⟨⟨_, Heap.get?_push_size _ rfl, rfl, rfl⟩, (il.push _)⟩ ⟨0, Nat.le_refl 0, setR_new_at (Heap.get?_push_of_some _ g0)⟩ ?_
        intro z' c' hm hc' hS'
        obtain ⟨h', g2, d', tk', os'⟩ := z'
        cases (hm.gens : g2 = s.gens); cases (hm.drawn : d' = s.drawn); cases (hm.os : os' = s.os)
        have old : ∀ b o, s.heap.get? b = some o → h'.get? b = some o := fun b o e => by
          have b0 : b < s.heap.objs.size := Heap.lt_size e
          refine hm.heap b o (fun q => ?_) (Heap.get?_push_of_some _ (Heap.get?_push_of_some _ e))
          rcases List.mem_cons.mp q with q | q
          · exact Nat.ne_of_lt b0 q
          · rw [Heap.size_push] at q
            exact Nat.ne_of_lt (Nat.lt_succ_of_lt b0) (List.mem_singleton.mp q)
        rw [len] at hc'
        show wpAny _ _ _ _ _ _
        refine wpAny_pure ?_
        show wpAny _ _ (ret Value.none) _ _ _
        exact wpAny_pure ⟨rfl, h', tk', c', rfl, hS', hc', old⟩
      · cases r₂ with
        | error e => exact hr₂
        | ok fl₂ =>
          cases fl₂ with
          | ret r =>
            obtain ⟨rfl, h', tk, c', rfl, hS', hc', hk'⟩ := hr₂
            repeat (any_goals (first | assumption | wp_step))
            exact h _ _ _ hS' hc' hk'
          | _ => exact hr₂.elim
    | _ => exact hr.elim
end
/-- set(xs) -/
def rSetLI (K : PySem.W.Frag) (w : World) : List V → Hp → VK → Prop := fun xs H Q => ∃ (l : Addr) (ns : List Int), xs = [V.ref l] ∧ SqL K H l (ns.map V.int) ∧ ns.length ≤ 1000 ∧ ∀ p c, H p = none → c ≤ ns.length → Q (.ref p) (upd H p (SetO w p (fun j => decide (j ∈ ns)) c))
theorem cr_setLI {X : Cx} (hc : X.calm = true) : CallR X (.type "set") (rSetLI X.K X.w) := by
  intro pins s σ H xs us Q I r h
  obtain ⟨l, ns, rfl, hl, hf, q⟩ := h
  rw [Vals.ref1 r]
  obtain ⟨its, rv, pl, hz⟩ := I.list hl
  refine set_lstI (P := X.prog) (w := X.w) ns (I.ok.hd hc) pl.isList (by simpa using ints_of_vals rv) (by unfold scanBound; omega) fun h' tk c R hcn k => ?_
  exact ⟨.ref s.heap.objs.size, _, I.laid (t' := tk) k (Nat.le_refl _) (setO_new R), rfl, q _ c (I.hok.fresh (Nat.le_refl _)) hcn⟩
end DP
set_option Elab.async false
set_option linter.all false
set_option maxRecDepth 100000
/-! DP, part 30: sorted(set(ints)); in, not in; is True; enumerate; starred items; a < b < c < d; constants of the module that are tuples; one of several defs, called. -/
namespace DP
open PySem PySem.Spec PyProof.Rows L2

/-! ### sorted(set(xs)) of ints -/
def leZ (a b : Int) : Bool := decide (a ≤ b)
/-- the ints of xs in order, each once -/
def setZ (xs : List Int) : List Int := xs.eraseDups.mergeSort leZ
def sortSetID : D → Option D
  | .list ds => match intsD ds with
    | some ns => if ds.length < 64 then some (.list ((setZ ns).map .int)) else none
    | none => none
  | _ => none
theorem leZ_anti (a b : Int) (h : leZ a b = true) (k : leZ b a = true) : a = b := by
  unfold leZ at *
  exact Int.le_antisymm (of_decide_eq_true h) (of_decide_eq_true k)
theorem setZ_pw (xs : List Int) : (setZ xs).Pairwise (fun a b => leZ a b = true) :=
  List.pairwise_mergeSort (fun a b c h k => by unfold leZ at *; exact decide_eq_true (Int.le_trans (of_decide_eq_true h) (of_decide_eq_true k))) (fun a b => by
    unfold leZ
    rcases Int.le_total a b with h | h
    · rw [decide_eq_true h]; rfl
    · rw [decide_eq_true h, Bool.or_true]) _
theorem mem_setZ {xs : List Int} {a : Int} : a ∈ setZ xs ↔ a ∈ xs := by
  unfold setZ
  rw [(List.mergeSort_perm _ _).mem_iff]
  exact List.mem_eraseDups
theorem setZ_nodup (xs : List Int) : (setZ xs).Nodup := (List.mergeSort_perm _ _).nodup_iff.mpr (nodup_dups _ xs (Nat.le_refl _))
theorem setZ_eq {xs ns : List Int} (h : ns.Pairwise (· < ·)) (m : ∀ k, k ∈ ns ↔ k ∈ xs) : ns = setZ xs := by
  refine sorted_one (le := leZ) leZ_anti ?_ (h.imp fun q => decide_eq_true (Int.le_of_lt q)) (setZ_pw xs)
  exact (List.perm_ext_iff_of_nodup (h.imp fun q => Int.ne_of_lt q) (setZ_nodup xs)).mpr fun k => (m k).trans mem_setZ.symm
def xSortSetI (f : XF) : XF := fun env => (f env).bind fun r => liftO (sortSetID r.1) r.2
section
variable {X : Cx} {Wx : WX}
theorem rep_ints {K : PySem.W.Frag} {w : World} {W : Hp} : ∀ ns : List Int, RepL K w W (ns.map PyData.int) (ns.map V.int)
  | [] => RepL.nil
  | i :: ns => RepL.cons (by simp only [Rep]) (rep_ints ns)
theorem en_sortSetI {e : Expr} {f : XF} {p p2 q pos : Pos} (hc : X.calm = true) (hg : Gl X "sorted") (hm : X.mg "sorted" = none) (hg2 : Gl X "set") (hm2 : X.mg "set" = none) (he : EX X Wx e f)
    (hs : starEach [e] X.env = (false, eval e X.env) :: starEach [] X.env := by rfl) (hs2 : starEach [.Call (.Name "set" p2) [e] [] q] X.env = (false, eval (.Call (.Name "set" p2) [e] [] q) X.env) :: starEach [] X.env := by rfl) :
    EN X Wx (.Call (.Name "sorted" p) [.Call (.Name "set" p2) [e] [] q] [] pos) (xSortSetI f) := by
  have hset : PE X (.Call (.Name "set" p2) [e] [] q) (tCB (rSetLI X.K X.w) (tCons _ tNil)) := pe_callTy (cr_setLI hc) hg2 hm2 (by rfl) (pa_cons he pa_nil hs) (by decide) (by decide) hs (by rfl)
  refine PE.wk (pe_callB (L2.cr_sortedSet hc) hg hm (by rfl) (pa_cons hset pa_nil hs2) (by decide) (by decide) hs2 (by rfl)) ?_
  rintro σ H Q ⟨ρ, W, env, A, S, h⟩
  refine tN_then S h fun d W1 H1 env1 A1 v S1 F1 r1 h1 => ?_
  simp only at h1
  unfold sortSetID at h1
  split at h1
  · rename_i d' ds
    simp only [Rep] at r1
    obtain ⟨a, vs, rfl, q1, l⟩ := r1
    split at h1
    · rename_i ns en
      split at h1
      · rename_i c
        have evs := intsD_rep l en
        subst evs
        have ln : ns.length = ds.length := by rw [← l.len, List.length_map]
        refine ⟨a, ns, rfl, .of (S1.sub _ _ q1), by omega, fun b n hb hn => ?_⟩
        refine ⟨b, _, n, rfl, upd_same, by omega, fun ns' p' pw mm _ hp' => ?_⟩
        have e : ns' = setZ ns := setZ_eq pw fun k => by rw [mm k, decide_eq_true_eq]
        subst e
        have h2 := onW_of S1 h1
        have e2 : Ex W1 H1 W1 (upd H1 b (SetO X.w b (fun j => decide (j ∈ ns)) n)) := Ex.junk S1.sub hb
        have n2 : H1 p' = none := by
          by_cases z : p' = b
          · rw [z]; exact hb
          · rwa [upd_ne z] at hp'
        exact h2 W1 _ p' (e2.trans (Ex.junk (p := p') (o := .lst ((setZ ns).map V.int)) e2.sub hp')) (S1.sub.free n2) ⟨_, upd_same, rep_ints _⟩ n2
      · exact h1.elim
    · exact h1.elim
  · exact h1.elim
end

/-! ### in, not in -/
def inB (x y : D) : Bool := match y with
  | .list ds => ds.any fun z => z.eqv x
  | .tuple ds => ds.any fun z => z.eqv x
  | _ => false
def inOk (x y : D) : Bool := match y with
  | .list ds => PyData.plainAll ds && x.plain && decide (min (PyData.depthAll ds) x.depth ≤ 60)
  | .tuple ds => PyData.plainAll ds && x.plain && decide (min (PyData.depthAll ds) x.depth ≤ 60)
  | _ => false
def inD (x y : D) : Option D := if inOk x y then some (.bool (inB x y)) else none
def ninD (x y : D) : Option D := if inOk x y then some (.bool (!inB x y)) else none
section
variable {X : Cx} {Wx : WX}
theorem op_inD' (hu : X.A.units + 64 < cLine) : OpR X (compareOp .In) (tV2 X.K X.w inD) := by
  refine op_cmpD (b := inB) (fun x y z e => ?_) fun s x y z u v as bs Q e ra rb h => ?_
  · unfold inD at e; split at e <;> cases e; rfl
  · unfold inD at e
    split at e
    · rename_i c
      cases y with
      | list ds =>
        simp only [inOk, Bool.and_eq_true, decide_eq_true_eq] at c
        exact PySem.SeqAt.in_list_data rb ra c.1.1 c.1.2 (by omega) h
      | tuple ds =>
        simp only [inOk, Bool.and_eq_true, decide_eq_true_eq] at c
        exact PySem.SeqAt.in_tuple_data rb ra c.1.1 c.1.2 (by omega) h
      | _ => cases c
    · cases e
theorem op_ninD' (hu : X.A.units + 64 < cLine) : OpR X (compareOp .NotIn) (tV2 X.K X.w ninD) := by
  refine op_cmpD (b := fun x y => !inB x y) (fun x y z e => ?_) fun s x y z u v as bs Q e ra rb h => ?_
  · unfold ninD at e; split at e <;> cases e; rfl
  · unfold ninD at e
    split at e
    · rename_i c
      cases y with
      | list ds =>
        simp only [inOk, Bool.and_eq_true, decide_eq_true_eq] at c
        exact PySem.SeqAt.notIn_list_data rb ra c.1.1 c.1.2 (by omega) h
      | tuple ds =>
        simp only [inOk, Bool.and_eq_true, decide_eq_true_eq] at c
        exact PySem.SeqAt.notIn_tuple_data rb ra c.1.1 c.1.2 (by omega) h
      | _ => cases c
    · cases e
/-! ### is True, is not True: both bools -/
def isBD : D → D → Option D
  | .bool a, .bool b => some (.bool (decide (a = b)))
  | _, _ => none
def isntBD : D → D → Option D
  | .bool a, .bool b => some (.bool (!decide (a = b)))
  | _, _ => none
theorem op_isBD : OpR X (compareOp .Is) (tV2 X.K X.w isBD) := by
  refine OpR.wk L2.op_isBl ?_
  rintro v u H Q ⟨W, x, y, s, r1, r2, h⟩
  unfold isBD at h
  split at h
  · simp only [Rep] at r1 r2
    subst r1 r2
    exact ⟨_, _, rfl, rfl, h.flat s rfl⟩
  · exact h.elim
theorem op_isntBD : OpR X (compareOp .IsNot) (tV2 X.K X.w isntBD) := by
  refine OpR.wk L2.op_notBl ?_
  rintro v u H Q ⟨W, x, y, s, r1, r2, h⟩
  unfold isntBD at h
  split at h
  · simp only [Rep] at r1 r2
    subst r1 r2
    exact ⟨_, _, rfl, rfl, h.flat s rfl⟩
  · exact h.elim
/-! ### enumerate(xs) of a list -/
def enumF : Nat → List D → List D
  | _, [] => []
  | n, d :: r => .tuple [.int n, d] :: enumF (n + 1) r
theorem enumF_len : ∀ (n : Nat) (ds : List D), (enumF n ds).length = ds.length
  | _, [] => rfl
  | n, d :: r => by simp only [enumF, List.length_cons, enumF_len (n + 1) r]
theorem enumF_at : ∀ {n i : Nat} {ds : List D} {x : D}, (enumF n ds)[i]? = some x → ∃ d, ds[i]? = some d ∧ x = .tuple [.int ((n + i : Nat) : Int), d]
  | n, i, [], x, h => by simp [enumF] at h
  | n, 0, d :: r, x, h => by
    simp only [enumF, List.getElem?_cons_zero, Option.some.injEq] at h
    exact ⟨d, by simp, by rw [← h]; rfl⟩
  | n, i + 1, d :: r, x, h => by
    simp only [enumF, List.getElem?_cons_succ] at h
    obtain ⟨e, h1, h2⟩ := enumF_at h
    exact ⟨e, by simpa using h1, by rw [h2]; congr 3; omega⟩
def enumD : List D → Option (List D)
  | [.list ds] => some (enumF 0 ds)
  | _ => none
theorem wk_enum {K : PySem.W.Frag} {w : World} {W : Hp} {ds : List D} {a : Addr} {vs : List V} (h : W a = some (.lst vs)) (r : RepL K w W ds vs) : Wk K w W (enumF 0 ds) (Ite K a) where
  go i H W2 s1 s2 hi := by
    rw [enumF_len] at hi
    obtain ⟨v, hv, _⟩ := r.at (i := i) (List.getElem?_eq_getElem hi)
    exact ⟨vs, v, .inl (.of (s2 _ _ (s1 _ _ h))), hv⟩
  stop i H W2 s1 s2 hi := by
    rw [enumF_len] at hi
    exact ⟨vs, .inl (.of (s2 _ _ (s1 _ _ h))), by rw [r.len]; exact hi⟩
  yld i H W2 v H' x s1 s2 hx y := by
    obtain ⟨d, hd, rfl⟩ := enumF_at hx
    obtain ⟨v', hv, rv⟩ := r.at hd
    obtain ⟨T, x', rfl, hT, rfl, hall⟩ := y
    have e := hall vs (.inl (.of (s2 _ _ (s1 _ _ h))))
    rw [hv] at e
    have e : v' = x' := Option.some.inj e
    subst e
    have E := Ex.one (o := .tup [.int (i : Nat), v']) s2 hT
    refine ⟨_, E, ?_⟩
    simp only [Rep]
    refine ⟨T, _, rfl, .of upd_same, RepL.cons (by simp only [Rep, Nat.zero_add]) (RepL.cons (Rep.mono (s1.trans E.ext) d v' rv) RepL.nil)⟩
theorem ei_enum {e : Expr} {g : AF} {p pos tpos : Pos} {elts : List Expr} {kk : Nat} (hg : Gl X "enumerate") (hm : X.mg "enumerate" = none) (ha : EA X Wx [e] g) (hs : starEach [e] X.env = [(false, eval e X.env)] := by rfl) :
    EI X Wx (.Tuple elts kk tpos) (.Call (.Name "enumerate" p) [e] [] pos) (iArgs enumD g) := by
  refine PI.wk (pi_enum hg hm ha hs) ?_
  rintro σ H R ⟨ρ, W, env, A, S, h⟩
  refine tG_then S h fun ds W1 H1 env1 A1 vs S1 F1 r1 h1 => ?_
  simp only [enumD] at h1
  split at h1
  · simp only [RepL, Rep] at r1
    obtain ⟨v, _, rfl, ⟨a, us, rfl, q, l⟩, rfl⟩ := r1
    exact ⟨a, us, rfl, .inl (.of (S1.sub _ _ q)), wk_of S1 h1 rfl (wk_enum q l)⟩
  · exact h1.elim
/-! ### [*xs, ..] -/
def seqO : D → Out (List D)
  | .list ds => .ok ds
  | .tuple ds => .ok ds
  | _ => .bad
def aStar (f : XF) (g : AF) : AF := fun env => (f env).bind fun r => (seqO r.1).bind fun xs => (g r.2).bind fun q => .ok (xs ++ q.1, q.2)
theorem ea_star {e : Expr} {es : List Expr} {f : XF} {g : AF} {p : Pos} (he : EX X Wx e f) (hr : EA X Wx es g) (hs : starEach (.Starred e p :: es) X.env = (true, eval e X.env) :: starEach es X.env := by rfl) : EA X Wx (.Starred e p :: es) (aStar f g) := by
  refine PA.wk (StX.pa_star he hr hs) ?_
  rintro σ H Q ⟨ρ, W, env, A, S, h⟩
  refine tG_then S h fun d W1 H1 env1 A1 v S1 F1 r1 h1 => ?_
  have go : ∀ (ds : List D) (vs : List V), RepL X.K X.w W1 ds vs → onG X.K X.w X.mg Wx (RepL X.K X.w) ρ σ W1 H1 A1 ((g env1).bind fun q => .ok (ds ++ q.1, q.2)) Q → tL X Wx g σ H1 fun ys H2 => Q (vs ++ ys) H2 := fun ds vs rl hq =>
    tG_then S1 hq fun es W2 H2 env2 A2 us S2 F2 r2 h2 => h2 W2 H2 A2 _ S2 (Fr.refl _ _ _) ((RepL.mono F2.ext ds vs rl).append r2)
  cases d with
  | list ds =>
    simp only [Rep] at r1
    obtain ⟨a, vs, rfl, q, l⟩ := r1
    exact ⟨a, vs, rfl, .inr (.inl (.of (S1.sub _ _ q))), go ds vs l h1⟩
  | tuple ds =>
    simp only [Rep] at r1
    obtain ⟨a, vs, rfl, q, l⟩ := r1
    exact ⟨a, vs, rfl, .inl (Same.sqt S1.sub q), go ds vs l h1⟩
  | _ => exact h1.elim
end
end DP
set_option Elab.async false
set_option linter.all false
set_option maxRecDepth 100000
/-! DP, part 31: a < b < c < d; constants of the module that are tuples of texts; one of several defs, called. -/
namespace DP
open PySem PySem.Spec PyProof.Rows L2

/-! ### chains of any length -/
def chainR (o : D → D → Option D) (g : XF) (next : D → XF) (x : D) : XF := fun env => (g env).bind fun q => (liftO (o x q.1) q.2).bind fun t => (asB t).bind fun t => if t.1 = true then next q.1 t.2 else .ok (.bool false, t.2)
def chainE (o : D → D → Option D) (g : XF) (x : D) : XF := fun env => (g env).bind fun q => liftO (o x q.1) q.2
def xChainN (f : XF) (next : D → XF) : XF := fun env => (f env).bind fun r => next r.1 r.2
/-- the rest of a chain, its left value known -/
def CH (X : Cx) (Wx : WX) (pos : Pos) (ops : List CmpOp) (rs : List (Sem Value)) (F : D → XF) : Prop := ∀ (pins : List (Addr × Obj)) (s : Shared) (σ : L2.St) (H : Hp) (v : V) (u : Value) (Q : VK) (x : D) (ρ : Nat → Addr) (W : Hp) (env : Ev) (A : List (List Addr)),
  Inv X pins σ H s → RelV v u → SR X.K X.w ρ W H env σ A → Rep X.K X.w W x v → onX X Wx ρ σ W H A (F x env) Q → wpAny (model X.prog X.w) X.A (compareChain pos u ops rs) (EP X pins σ Q) X.xe s
section
variable {X : Cx} {Wx : WX} {a b c : Expr} {f g : XF} {pos : Pos} {op op' : CmpOp} {ops : List CmpOp} {o : D → D → Option D} {r' : Sem Value} {rs : List (Sem Value)} {F : D → XF}
theorem ch_last (ho : OpR X (compareOp op) (tV2 X.K X.w o)) (hb : EX X Wx b g) : CH X Wx pos [op] [eval b X.env] (chainE o g) := by
  intro pins s σ H v u Q x ρ W env A I r S rx h
  refine chain_last (thn (hb.run pins s σ H (fun w H2 => tV2 X.K X.w o v w H2 Q) I ?_) fun u2 s2 ⟨w, H2, I2, r2, q2⟩ => ho pins s2 σ H2 v w u u2 Q I2 r r2 q2)
  refine tG_then S h fun d W1 H1 env1 A1 w S1 F1 r1 h1 => ?_
  exact ⟨W1, x, d, S1.sub, Rep.mono F1.ext x v rx, r1, onV_of S1 h1⟩
theorem ch_link (ho : OpR X (compareOp op) (tV2 X.K X.w o)) (hb : EX X Wx b g) (k : CH X Wx pos (op' :: ops) (r' :: rs) F) : CH X Wx pos (op :: op' :: ops) (eval b X.env :: r' :: rs) (chainR o g F) := by
  intro pins s σ H v u Q x ρ W env A I r S rx h
  unfold chainR at h
  refine chain_link (thn (hb.run pins s σ H (fun w H2 => ∃ d W2 env2 A2, SR X.K X.w ρ W2 H2 env2 σ A2 ∧ Same W W2 ∧ Rep X.K X.w W2 d w ∧ onX X Wx ρ σ W2 H2 A2 ((liftO (o x d) env2).bind fun t => (asB t).bind fun t => if t.1 = true then F d t.2 else .ok (.bool false, t.2)) Q) I ?_) ?_)
  · exact tG_then S h fun d W1 H1 env1 A1 w S1 F1 r1 h1 => ⟨d, W1, env1, A1, S1, F1.ext, r1, h1⟩
  · rintro u2 s2 ⟨w, H2, I2, r2, d, W2, env2, A2, S2, sm, rw2, h2⟩
    cases eo : o x d with
    | none => rw [eo] at h2; exact h2.elim
    | some z =>
      rw [eo] at h2
      simp only [liftO_some, Out.bind_ok] at h2
      unfold asB at h2
      cases z with
      | bool q =>
        simp only [Out.bind_ok] at h2
        refine thn (ho pins s2 σ H2 v w u u2 (fun y H3 => ∃ W3, Ex W2 H2 W3 H3 ∧ y = .bl q) I2 r r2 ⟨W2, x, d, S2.sub, Rep.mono sm x v rx, rw2, by rw [eo]; exact fun W3 H3 y e3 r3 => ⟨W3, e3, by simpa only [Rep] using r3⟩⟩) ?_
        rintro u3 s3 ⟨y, H3, I3, r3, W3, e3, rfl⟩
        cases r3
        refine wpAny_truthy_bool ?_
        have S3 := S2.ex e3
        cases q with
        | false =>
          simp only [Bool.false_eq_true, if_false] at h2 ⊢
          exact ⟨.bl false, H3, I3, rfl, h2 W3 H3 A2 _ S3 (e3.fr _) (by simp only [Rep])⟩
        | true =>
          simp only [if_true] at h2 ⊢
          exact k pins s3 σ H3 w u2 Q d ρ W3 env2 A2 I3 r2 S3 (Rep.mono e3.ext d w rw2) (onG_fr h2 (e3.fr (ownd A2)))
      | _ => exact h2.elim
theorem ex_chainN {op2 : CmpOp} {b2 : Expr} {es : List Expr} (ha : EX X Wx a f) (k : CH X Wx pos (op :: op2 :: ops) (eval b X.env :: eval b2 X.env :: evalEach es X.env) F) (hm : lastMarks (op :: op2 :: ops) (b :: b2 :: es) = false := by with_unfolding_all rfl) :
    EX X Wx (.Compare a (op :: op2 :: ops) (b :: b2 :: es) pos) (xChainN f F) := by
  refine ⟨fun pins s σ H Q I h => ?_⟩
  obtain ⟨ρ, W, env, A, S, h⟩ := h
  unfold xChainN at h
  refine Compare_chain (thn (ha.run pins s σ H (fun v H1 => ∃ d W1 env1 A1, SR X.K X.w ρ W1 H1 env1 σ A1 ∧ Rep X.K X.w W1 d v ∧ onX X Wx ρ σ W1 H1 A1 (F d env1) Q) I ?_) ?_) hm
  · exact tG_then S h fun d W1 H1 env1 A1 v S1 F1 r1 h1 => ⟨d, W1, env1, A1, S1, r1, h1⟩
  · rintro u s1 ⟨v, H1, I1, r1, d, W1, env1, A1, S1, rd, h1⟩
    exact k pins s1 σ H1 v u Q d ρ W1 env1 A1 I1 r1 S1 rd h1
/-- a constant of the module: a tuple of texts -/
theorem ex_globT {x : Str} {t : Addr} {ss : List Str} {ob : Obj} {its : Array Value} {n : Nat} (hg : Gl X x) (hm : X.mg x = some (.ref t)) (hk : X.K.lookup t = some ob) (h1 : ob.cls = .type "tuple") (h2 : ob.data = .seq its n) (h3 : its.size ≤ sizeLine)
    (h4 : Vals (ss.map V.str) its.toList) (hd : (x == ("__debug__" : Str)) = false := by decide) : EX X Wx (.Name x pos) (xConst (.tuple (ss.map .str))) := by
  refine ex_const (pe_glob (v := .ref t) hg hm rfl hd) fun W => ?_
  simp only [Rep]
  refine ⟨t, ss.map V.str, rfl, .inr ⟨ob, its, n, hk, h1, h2, h3, h4⟩, ?_⟩
  clear h4
  induction ss with
  | nil => exact RepL.nil
  | cons y ss ih => exact RepL.cons (by simp only [Rep]) ih
end

/-! ### [f, g, ..][i](..) -/
def xCallFs (Fs : List (Nat × FD)) (ix : XF) (g : AF) : XF := fun env => (ix env).bind fun r => match r.1 with
  | .int i => (match atI Fs i with
    | some (n, F) => xCall n F g r.2
    | none => .bad)
  | _ => .bad
def FsOk (X : Cx) (j : Nat) (names : List Expr) (Fs : List (Nat × FD)) : Prop := ∃ as : List Addr, PA X names (fun _ H Q => Q (as.map V.ref) H) ∧ as.length = Fs.length ∧
  ∀ (i : Nat) a n F, as[i]? = some a → Fs[i]? = some (n, F) → ∃ fd k ps, k ≤ j ∧ FnG X.prog X.w X.K X.mg X.base k a fd ps (spF X.K X.w X.mg n F) ∧ PySem.W.keepIn X.K (.ref a) = true ∧ Binds X.K fd ps []
theorem atI_pair {α β : Type} {xs : List α} {ys : List β} (h : xs.length = ys.length) {i : Int} {y : β} (e : atI ys i = some y) : ∃ (j : Nat) (x : α), xs[j]? = some x ∧ ys[j]? = some y ∧ atI xs i = some x := by
  unfold atI at e ⊢
  rw [h]
  cases q : ixN ys.length i with
  | none => rw [q] at e; cases e
  | some j =>
    rw [q] at e
    have e : ys[j]? = some y := e
    have lt : j < xs.length := by rw [h]; exact (List.getElem?_eq_some_iff.mp e).1
    exact ⟨j, xs[j], List.getElem?_eq_getElem lt, e, List.getElem?_eq_getElem lt⟩
section
variable {X : Cx} {Wx : WX} {j k : Nat} {x : Str} {ps : List Str} {F : FD} {names : List Expr} {Fs : List (Nat × FD)} {p p1 p2 pos : Pos}
theorem fs_nil : FsOk X j [] [] := ⟨[], ⟨fun pos pins s σ H Q I h => pa_nil.run pos pins s σ H Q I h⟩, rfl, fun i a n F h => by simp at h⟩
theorem fs_cons (d : Def0 X.prog X.w X.K X.mg X.base k x ps F) (hk : k ≤ j) (hg : Gl X x) (r : FsOk X j names Fs) (hd : (x == ("__debug__" : Str)) = false := by decide)
    (hs : starEach (.Name x p :: names) X.env = (false, eval (.Name x p) X.env) :: starEach names X.env := by rfl) : FsOk X j (.Name x p :: names) ((ps.length, F) :: Fs) := by
  obtain ⟨f, fd, G, h1, h2, h3⟩ := d.ex
  obtain ⟨as, ha, hl, hf⟩ := r
  refine ⟨f :: as, PA.wk (pa_cons (pe_glob (v := .ref f) hg h1 rfl hd) ha hs) fun σ H Q q => q, by rw [List.length_cons, List.length_cons, hl], fun i a n F' e1 e2 => ?_⟩
  cases i with
  | zero =>
    simp only [List.getElem?_cons_zero, Option.some.injEq, Prod.mk.injEq] at e1 e2
    obtain ⟨e2, e3⟩ := e2
    subst e1 e2 e3
    exact ⟨fd, k, ps, hk, G, h2, h3⟩
  | succ i => exact hf i a n F' (by simpa using e1) (by simpa using e2)
theorem ex_callFs {ie e : Expr} {es : List Expr} {fi : XF} {g : AF} (h : FsOk X j names Fs) (hl : Fs.length ≤ 100) (hr : Room j X.A) (hq : X.A.guards = some []) (tk : Takes X Wx) (hi : EX X Wx ie fi) (ha : EA X Wx (e :: es) g) (hp : PlainIx ie)
    (hc : eval (.Call (.Subscript (.List names p1) ie p2) (e :: es) [] pos) X.env = (do callWith pos (← eval (.Subscript (.List names p1) ie p2) X.env) [] (backTo pos (starEach (e :: es) X.env)) (backToKw pos (keywordEach [] X.env))) := by rfl)
    (he : starEach (e :: es) X.env = (false, eval e X.env) :: starEach es X.env := by rfl) (hpl : (backTo pos (starEach es X.env)).any (·.1) = false := by rfl) :
    EX X Wx (.Call (.Subscript (.List names p1) ie p2) (e :: es) [] pos) (xCallFs Fs fi g) := by
  obtain ⟨as, hpa, hlen, hf⟩ := h
  refine ⟨fun pins s σ H Q I h => ?_⟩
  obtain ⟨ρ, W, env, A, S, h⟩ := h
  unfold xCallFs at h
  rw [hc]
  refine wpAny_bind ?_
  -- which one
  refine thn ((pe_ix (ix_list (X := X)) (pe_lst (pos := p1) hpa) hi hp).run pins s σ H (fun v H2 => ∃ (jj : Nat) (a : Addr) (n : Nat) (F : FD) (W2 : Hp) (env2 : Ev) (A2 : List (List Addr)), v = .ref a ∧ as[jj]? = some a ∧ Fs[jj]? = some (n, F) ∧ SR X.K X.w ρ W2 H2 env2 σ A2 ∧ onX X Wx ρ σ W2 H2 A2 (xCall n F g env2) Q) I ?_) ?_
  · refine ⟨by rw [List.length_map, hlen, sizeLine_eq]; omega, fun p n => ?_⟩
    have E := Ex.junk (o := .lst (as.map V.ref)) S.sub n
    refine tG_then (S.ex E) (onG_fr h (E.fr _)) fun d W1 H1 env1 A1 v S1 F1 r1 h1 => ?_
    cases d with
    | int i =>
      simp only [Rep] at r1
      subst r1
      simp only at h1
      cases ea : atI Fs i with
      | none => rw [ea] at h1; exact h1.elim
      | some nf =>
        obtain ⟨n0, F0⟩ := nf
        rw [ea] at h1
        obtain ⟨jj, a, e1, e2, e3⟩ := atI_pair hlen ea
        have hp1 : H1 p = some (.lst (as.map V.ref)) := F1.keep p _ upd_same fun z => by
          obtain ⟨_, o, ho⟩ := (S.ex E).own z
          obtain ⟨i', l', hi', hp'⟩ := z
          obtain ⟨_, o', ho'⟩ := S.own ⟨i', l', hi', hp'⟩
          rw [n] at ho'; cases ho'
        exact ⟨p, as.map V.ref, i, .ref a, rfl, rfl, .of hp1, by rw [atI_map, e3]; rfl, jj, a, n0, F0, W1, env1, A1, rfl, e1, e2, S1, h1⟩
    | _ => exact h1.elim
  · rintro u s2 ⟨v, H2, I2, r2, jj, a, n, F, W2, env2, A2, rfl, e1, e2, S2, h2⟩
    obtain rfl : u = Value.ref a := r2
    obtain ⟨fd, k, ps, hk, G, hkp, hb⟩ := hf jj a n F e1 e2
    refine PySem.W.callWith_K (h₀ := X.base) I2.ok.mod.kin hkp (thn (ha.run pos pins s2 σ H2 (fun vs H3 => spF X.K X.w X.mg n F vs H3 Q (fun cls d H => Wx cls d σ H)) I2 ?_) fun us s3 ⟨vs, H3, I3, r, q⟩ => ⟨I3.kIn, ?_⟩) he hpl
    · refine tG_then S2 h2 fun ds W3 H3 env3 A3 vs S3 F3 r3 h3 => ?_
      by_cases hn : ds.length = n
      · simp only [if_pos hn] at h3
        refine ⟨W3, ds, S3.sub, r3, hn, ?_⟩
        cases eF : F ds with
        | bad => rw [eF] at h3; exact h3.elim
        | ok d => rw [eF] at h3; exact fun W' H' v ex r => h3 W' H' A3 v (S3.ex ex) (ex.fr _) r
        | exc c d e' => rw [eF] at h3; exact fun C W' H' dx v g ex hx r => h3 C W' H' A3 dx v g (S3.ex ex) (ex.fr _) hx r
      · simp only [if_neg hn] at h3
        exact h3.elim
    · have hl' : us.length = ps.length := r.length.symm.trans (G.len _ _ _ _ q)
      have hb' := hb s3 us I3.kIn (by rw [List.append_nil]; exact hl')
      rw [List.append_nil] at hb'
      refine wpAny_call (codeAny_mono (G.go X.A X.stack s3 H3 ⟨us, []⟩ us vs Q _ (hr.mono hk) hq I3.env0 hb' r q) fun z s4 hz => ?_)
      cases z with
      | error y => exact passAt tk σ pins H3 s3 y s4 I3 hz
      | ok fl =>
        cases fl with
        | ret u => exact I3.after hz
        | next => exact False.elim hz
        | brk => exact False.elim hz
        | cont => exact False.elim hz
end
section
variable {X : Cx} {Wx : WX} {a : Expr} {f : XF} {pos : Pos}
theorem et_isN {j p2} (h : EX X Wx a f) : ET X Wx (.Compare a [.Is] [.Constant .none j p2] pos) (tst (x1 isN f)) := by
  refine PT.wk (pt_cmp (pc_isN h)) fun σ H Q h' => ?_
  obtain ⟨ρ, W, env, A, S, h'⟩ := tst_read h'
  refine tG_then S h' fun d W1 H1 env1 A1 v S1 F1 r1 h1 => ?_
  rw [rep_non r1]
  exact (onV_of S1 h1).flat S1.sub rfl
theorem et_notN {j p2} (h : EX X Wx a f) : ET X Wx (.Compare a [.IsNot] [.Constant .none j p2] pos) (tst (x1 notN f)) := by
  refine PT.wk (pt_cmp (pc_notN h)) fun σ H Q h' => ?_
  obtain ⟨ρ, W, env, A, S, h'⟩ := tst_read h'
  refine tG_then S h' fun d W1 H1 env1 A1 v S1 F1 r1 h1 => ?_
  rw [rep_non r1]
  exact (onV_of S1 h1).flat S1.sub rfl
end
end DP
set_option Elab.async false
set_option linter.all false
set_option maxRecDepth 100000
/-! DP, part 32: list comprehensions of any number of clauses: the machine. -/
namespace DP
open PySem PySem.Spec PyProof.Rows L2

theorem cT_more {elt t0 i0 t1 i1 : Expr} {ifs0 ifs1 : List Expr} {gens : List Comprehension} {scope : Scope} {pos : Pos} {k : Nat} (it acc : Value) (env : Env) (hk : gens[k]? = some ⟨t0, i0, ifs0, 0⟩) (hk1 : gens[k + 1]? = some ⟨t1, i1, ifs1, 0⟩) :
    compTurn (.ListComp elt gens scope pos) k it acc env = (do
      standAt i0.pos
      match ← pyNext it with
      | none => pure (.done .next)
      | some v =>
        letOwnedTupleGo t0 it v
        assign t0 env v
        let mut ok := true
        for c in ifs0 do if ok then ok ← isTrue c env (eval c env)
        if ok then
          let x ← eval i1 env
          standAt i1.pos
          let x ← foldedSetIterable i1 env x
          let _ ← runOwn (.compStart (.ListComp elt gens scope pos) (k + 1) (← holding [x] (pyIter x)) acc env) env
        again (.compLoop (.ListComp elt gens scope pos) k it acc env)) := by
  unfold compTurn
  simp only [hk, hk1]
  rfl
theorem cT_last {elt t0 i0 : Expr} {ifs0 : List Expr} {gens : List Comprehension} {scope : Scope} {pos : Pos} {k : Nat} (it acc : Value) (env : Env) (hk : gens[k]? = some ⟨t0, i0, ifs0, 0⟩) (hk1 : gens[k + 1]? = none) :
    compTurn (.ListComp elt gens scope pos) k it acc env = (do
      standAt i0.pos
      match ← pyNext it with
      | none => pure (.done .next)
      | some v =>
        letOwnedTupleGo t0 it v
        assign t0 env v
        let mut ok := true
        for c in ifs0 do if ok then ok ← isTrue c env (eval c env)
        if ok then (do let _ ← call (.builtin "list.append") [acc, ← eval elt env])
        again (.compLoop (.ListComp elt gens scope pos) k it acc env)) := by
  unfold compTurn
  simp only [hk, hk1]
  rfl
section
variable {prog : Program} {w : World} {A : Around} {R : Result → Shared → Prop} {s : Shared} {elt : Expr} {gens : List Comprehension} {scope : Scope} {pos : Pos} {it acc : Value} {env : Env}
/-- what runs behind the tests of clause k - 1: clause k, or the element -/
def Run (prog : Program) (w : World) (A : Around) (elt : Expr) (gens : List Comprehension) (scope : Scope) (pos : Pos) (acc : Value) (env : Env) (E : Value → Shared → Prop) (k : Nat) (Post : Shared → Prop) (s : Shared) : Prop :=
  match gens[k]? with
  | some g => wpAny (model prog w) A (eval g.iter env) (fun x s₄ => wpAny (model prog w) A (pyIter x) (fun it1 s₅ => codeAny (model prog w) A (.compStart (.ListComp elt gens scope pos) k it1 acc env) (fun r s' => match r with
      | .ok _ => Post s'
      | .error _ => False) s₅) E s₄) E s
  | none => wpAny (model prog w) A (eval elt env) (fun x s₄ => wpAny (model prog w) A (call (.builtin "list.append") [acc, x]) (fun _ s₅ => Post s₅) E s₄) E s
theorem cLoop {t0 i0 : Expr} {ifs0 : List Expr} {k : Nat} (hk : gens[k]? = some ⟨t0, i0, ifs0, 0⟩) (hk1 : ∀ g, gens[k + 1]? = some g → g.is_async = 0 ∧ ∀ x, foldedSetIterable g.iter env x = pure x) (I : Nat → Shared → Prop)
    (turn : ∀ n s, I n s → wpAny (model prog w) A (pyNext it) (fun r z₁ => match r with
      | none => R (.ok .next) z₁
      | some v => wpAny (model prog w) A (letOwnedTupleGo t0 it v) (fun _ z₂ => wpAny (model prog w) A (assign t0 env v) (fun _ z₃ =>
          wpAny (model prog w) A (forIn ifs0 true fun c r => if r = true then do let ok ← isTrue c env (eval c env); pure (ForInStep.yield ok) else pure (ForInStep.yield r)) (fun ok z₄ =>
            if ok = true then Run prog w A elt gens scope pos acc env (notedBy (model prog w) A env fun e s' => R (.error e) s') (k + 1) (fun s' => ∃ m, m < n ∧ I m s') z₄
            else ∃ m, m < n ∧ I m z₄) (notedBy (model prog w) A env fun e s' => R (.error e) s') z₃) (notedBy (model prog w) A env fun e s' => R (.error e) s') z₂) (notedBy (model prog w) A env fun e s' => R (.error e) s') z₁) (notedBy (model prog w) A env fun e s' => R (.error e) s') s)
    (n : Nat) (h : I n s) : codeAny (model prog w) A (.compLoop (.ListComp elt gens scope pos) k it acc env) R s := by
  refine codeAny_loop rfl I (fun n s hI => ?_) n h
  refine (wpAny_noted ?_ : wpAny _ A ((compTurn (.ListComp elt gens scope pos) k it acc env).onRaise (fun x => do noteFrame x env; theTreesLotGoes x)) _ _ s)
  cases e1 : gens[k + 1]? with
  | some g =>
    obtain ⟨t1, i1, ifs1, as⟩ := g
    obtain ⟨z1, hs⟩ := hk1 _ e1
    simp only at z1 hs
    subst z1
    rw [cT_more it acc env hk e1]
    refine wpAny_bind (wpAny_standAt (wpAny_bind (wpAny_mono (turn n s hI) (fun r z₁ h₁ => ?_) fun _ _ q => q)))
    cases r with
    | none => exact wpAny_pure h₁
    | some v =>
      refine wpAny_bind (wpAny_mono h₁ (fun _ z₂ h₂ => wpAny_bind (wpAny_mono h₂ (fun _ z₃ h₃ => wpAny_bind (wpAny_mono h₃ (fun ok z₄ h₄ => ?_) fun _ _ q => q)) fun _ _ q => q)) fun _ _ q => q)
      cases ok with
      | false => exact wpAny_pure ⟨rfl, h₄⟩
      | true =>
        simp only [if_true, Run, e1] at h₄
        refine wpAny_bind (wpAny_mono h₄ (fun x z₅ h₅ => wpAny_bind (wpAny_standAt (wpAny_bind (wpAny_of_eq (hs x) (wpAny_bind (wpAny_holding (wpAny_mono h₅ (fun it1 z₆ h₆ => wpAny_bind (wpAny_runOwn ?_)) fun _ _ q => q))))))) fun _ _ q => q)
        rw [Around.mark_none]
        refine codeAny_mono h₆ fun r s' hr => ?_
        cases r with
        | error e => exact hr.elim
        | ok f =>
          first
            | exact wpAny_pure ⟨rfl, hr⟩
            | exact wpAny_bind (wpAny_pure (wpAny_pure ⟨rfl, hr⟩))
  | none =>
    rw [cT_last it acc env hk e1]
    refine wpAny_bind (wpAny_standAt (wpAny_bind (wpAny_mono (turn n s hI) (fun r z₁ h₁ => ?_) fun _ _ q => q)))
    cases r with
    | none => exact wpAny_pure h₁
    | some v =>
      refine wpAny_bind (wpAny_mono h₁ (fun _ z₂ h₂ => wpAny_bind (wpAny_mono h₂ (fun _ z₃ h₃ => wpAny_bind (wpAny_mono h₃ (fun ok z₄ h₄ => ?_) fun _ _ q => q)) fun _ _ q => q)) fun _ _ q => q)
      cases ok with
      | false => exact wpAny_pure ⟨rfl, h₄⟩
      | true =>
        simp only [if_true, Run, e1] at h₄
        exact wpAny_bind (wpAny_bind (wpAny_mono h₄ (fun x z₅ h₅ => wpAny_bind (wpAny_mono h₅ (fun _ z₆ h₆ => wpAny_pure (wpAny_pure ⟨rfl, h₆⟩)) fun _ _ q => q)) fun _ _ q => q))
theorem cStart {k : Nat} {t1 i1 : Expr} {ifs1 : List Expr} (hk : gens[k]? = some ⟨t1, i1, ifs1, 0⟩) (h0 : codeAny (model prog w) A (.compLoop (.ListComp elt gens scope pos) k it acc env) R s)
    (h : wpAny (model prog w) A (pyIter it) (fun it' s' => codeAny (model prog w) A (.compLoop (.ListComp elt gens scope pos) k it' acc env) R s') (notedBy (model prog w) A env fun x s' => R (.error x) s') s) :
    codeAny (model prog w) A (.compStart (.ListComp elt gens scope pos) k it acc env) R s := by
  refine codeAny_of_tree ?_
  refine (wpAny_notedAt ?_ : wpAny _ _ ((compStart (.ListComp elt gens scope pos) k it acc env).onRaise (fun x => do noteFrame x env; standAt theWindowsPlace)) _ _ s)
  unfold compStart
  have e1 : (clausesOf (.ListComp elt gens scope pos))[k]? = some ⟨t1, i1, ifs1, 0⟩ := hk
  rw [e1]
  show wpAny _ _ (if (0 != 0) = true then _ else ask >>= _) _ _ s
  rw [if_neg (by decide)]
  refine wpAny_bind (wpAny_askSetting (wpAny_ite ?_))
  split
  · first
      | exact wpAny_bind (wpAny_pure (wpAny_pure (And.intro rfl h0)))
      | exact wpAny_pure (And.intro rfl h0)
  · first
      | exact wpAny_bind (wpAny_rule (wpAny_bind (wpAny_standAt (wpAny_bind (wpAny_mono h (fun it' s' h' => wpAny_pure (And.intro rfl h')) fun _ _ x => x)))))
      | (refine wpAny_bind (wpAny_rule ?_); exact (wpAny_bind (wpAny_standAt (wpAny_bind (wpAny_mono h (fun it' s' h' => wpAny_pure (And.intro rfl h')) fun _ _ x => x))) : wpAny _ _ (standAt i1.pos >>= _) _ _ s))
end
end DP
set_option Elab.async false
set_option linter.all false
set_option maxRecDepth 100000
/-! DP, part 33: list comprehensions of any number of clauses: the readings. -/
namespace DP
open PySem PySem.Spec PyProof.Rows L2

/-- behind the tests of a clause: the clauses that are left, then the element; Nx is reached behind them -/
def tNest (L : Addr) : List (TI × TG × TT × List Nat) → TE → L2.St → Hp → (Hp → Prop) → Prop
  | [], te, σ, H, Nx => te σ H fun y H7 => ∃ acc, H7 L = some (.lst acc) ∧ acc.length < sizeLine ∧ Nx (upd H7 L (.lst (acc ++ [y])))
  | (wi, g, tt, vs) :: cs, te, σ, H, Nx => wi σ H fun J H4 => ∃ W1 : Nat → Nat → Hp → Prop, (∃ m, W1 0 m H4) ∧ ∀ j k H, W1 j k H → (J.stop j H ∧ Nx H) ∨
      (J.go j H ∧ ∃ Nx1 : Hp → Prop, (∀ H', Nx1 H' → ∃ k', k' < k ∧ W1 (j + 1) k' H') ∧ ∀ x H', J.yld j H x H' → g x (wipe σ vs) H' fun σ3 H5 => wipe σ3 vs = wipe σ vs ∧ tt σ3 H5 fun b H6 => if b = true then tNest L cs te σ3 H6 Nx1 else Nx1 H6)
def allVs : List (TI × TG × TT × List Nat) → List Nat
  | [] => []
  | c :: _ => c.2.2.2
inductive NestOk (Y : Cx) : List Comprehension → List (TI × TG × TT × List Nat) → Prop
  | nil : NestOk Y [] []
  | cons {tg iter : Expr} {ifs : List Expr} {wi : TI} {g : TG} {tt : TT} {vs : List Nat} {gs : List Comprehension} {cs : List (TI × TG × TT × List Nat)} (hi : PI Y tg iter wi) (hg : PG Y tg g) (ht : PTs Y ifs tt) (hs : ∀ env x, foldedSetIterable iter env x = pure x) (hv : ∀ j ∈ allVs cs, j ∈ vs) (r : NestOk Y gs cs) :
      NestOk Y (⟨tg, iter, ifs, 0⟩ :: gs) ((wi, g, tt, vs) :: cs)
theorem NestOk.head {Y : Cx} {gs : List Comprehension} {cs : List (TI × TG × TT × List Nat)} (h : NestOk Y gs cs) (env : Env) : ∀ g, gs.head? = some g → g.is_async = 0 ∧ ∀ x, foldedSetIterable g.iter env x = pure x := by
  cases h with
  | nil => intro g e; cases e
  | cons hi hg ht hs hv r => intro g e; cases e; exact ⟨rfl, hs env⟩
theorem thnX {α : Type} {t : Sem α} {Q Q' : α → Shared → Prop} {M : Model} {A : Around} {E E' : Value → Shared → Prop} {s : Shared} (h : wpAny M A t Q E' s) (hx : E' = fun _ _ => False) (hQ : ∀ a s, Q a s → Q' a s) : wpAny M A t Q' E s := by
  subst hx; exact thnF h hQ
theorem drop_head {α : Type} {l r : List α} {k : Nat} (h : l.drop k = r) : l[k]? = r.head? := by
  rw [← h, List.head?_drop]
theorem drop_next {α : Type} {l r : List α} {k : Nat} {a : α} (h : l.drop k = a :: r) : l.drop (k + 1) = r := by
  have := congrArg List.tail h
  rwa [List.tail_drop] at this
/-- slots that stand -/
abbrev Std (σ σ' : L2.St) : Prop := σ'.length = σ.length ∧ ∀ (j : Nat) v, σ[j]? = some (some v) → σ'[j]? = some (some v)
theorem nest_run {Y : Cx} {elt : Expr} {te : TE} {gens gs : List Comprehension} {scope : Scope} {pos : Pos} {L : Addr} {cs : List (TI × TG × TT × List Nat)} (hc : Y.calm = true) (hxe : Y.xe = fun _ _ => False) (pe : PE Y elt te) (h : NestOk Y gs cs) :
    ∀ {k : Nat} (_ : gens.drop k = gs) {pins : List (Addr × Obj)} {s : Shared} {σ : L2.St} {H : Hp} {Nx : Hp → Prop} {E : Value → Shared → Prop} {Post : Shared → Prop}, Inv Y pins σ H s → tNest L cs te σ H Nx →
      (∀ {σ' : L2.St} {s' : Shared} {H' : Hp}, Inv Y pins σ' H' s' → σ'.length = σ.length → (∀ (j : Nat) v, (wipe σ (allVs cs))[j]? = some (some v) → σ'[j]? = some (some v)) → Nx H' → Post s') → Run Y.prog Y.w Y.A elt gens scope pos (.ref L) Y.env E k Post s := by
  induction h with
  | nil =>
    intro k hd pins s σ H Nx E Post I q fin
    have e1 : gens[k]? = none := drop_head hd
    unfold Run
    rw [e1]
    exact thnX (pe.run pins s σ H _ I q) hxe fun z s1 ⟨yv, H1, I1, r1, acc, hL, hz, nx⟩ => L2.app_ok (X := Y) I1 hL hz r1 fun s2 I2 => fin I2 rfl (fun j v e => (wipe_some e).1) nx
  | @cons tg iter ifs wi g tt vs gs cs hi hg ht hs hv r ih =>
    intro k hd pins s σ H Nx E Post I q fin
    have e1 : gens[k]? = some ⟨tg, iter, ifs, 0⟩ := drop_head hd
    have hd1 := drop_next hd
    unfold Run
    rw [e1]
    refine thnX (hi.run pins s σ H _ I q) hxe fun xv s1 hx => thnX hx hxe fun itv s2 ⟨it, fp, tn, J, H2, e2, I2, T, st, f, W1, ⟨m1, w1⟩, turn⟩ => ?_
    subst e2
    have stat : ∀ {H' : Hp}, (∀ b ∈ fp, H' b = none) → ∀ b ∈ fp, FpOk Y pins H' b := fun hn b hb => ⟨hn b hb, (f b hb).2⟩
    have loop : codeAny (model Y.prog Y.w) Y.A (.compLoop (.ListComp elt gens scope pos) k (.ref it) (.ref L) Y.env) (fun r s' => match r with | .ok _ => Post s' | .error _ => False) s2 := by
      refine cLoop e1 (fun g eg => r.head Y.env g (by rw [← drop_head hd1]; exact eg)) (fun n s' => ∃ j H', Inv Y pins (wipe σ vs) H' s' ∧ tn j s'.heap ∧ (∀ b ∈ fp, H' b = none) ∧ W1 j n H') ?_ m1 ⟨0, H2, I2.weak (wipe_length _ _) (fun j v e => (wipe_some e).1), st, fun b hb => (f b hb).1, w1⟩
      rintro n s3 ⟨j, H3, I3, st3, n3, w3⟩
      rcases turn j n H3 w3 with ⟨stop, nx⟩ | ⟨go, Nx1, hNx1, step⟩
      · refine thnF (T.done Y rfl rfl rfl hc j _ s3 (wipe σ vs) H3 (fun _ _ => False) I3 (stat n3) st3 stop) fun r s4 ⟨hr, I4⟩ => ?_
        subst hr
        exact fin I4 (wipe_length σ vs) (fun j v e => e) nx
      · refine thnF (T.item Y rfl rfl rfl hc j _ s3 (wipe σ vs) H3 (fun _ _ => False) I3 (stat n3) st3 go) fun r s4 ⟨u, hr, h4⟩ => ?_
        subst hr
        refine thnF h4 fun _ s5 ⟨x, H5, I5, r5, y5, st5, n5⟩ => ?_
        have I5' := I5.pinned (stat n5) (T.obj _ _ st5)
        refine thnX (hg.run _ s5 (wipe σ vs) H5 x u _ I5' r5 (step x H5 y5)) hxe fun _ s6 ⟨σ6, H6, I6, hw6, q6⟩ => ?_
        refine thnX (ht.run _ s6 σ6 H6 _ I6 q6) hxe fun b s7 ⟨H7, I7, q7⟩ => ?_
        have back : ∀ {σ8 : L2.St} {s' : Shared} {H' : Hp}, Inv Y (pins ++ pinsAt fp s5.heap) σ8 H' s' → σ8.length = σ6.length → (∀ (j : Nat) v, (wipe σ6 vs)[j]? = some (some v) → σ8[j]? = some (some v)) → Nx1 H' →
            ∃ m, m < n ∧ ∃ j H', Inv Y pins (wipe σ vs) H' s' ∧ tn j s'.heap ∧ (∀ b ∈ fp, H' b = none) ∧ W1 j m H' := fun {σ8 s' H'} I' hl hk nx => by
          obtain ⟨m', hm, w'⟩ := hNx1 H' nx
          have pin' : ∀ b ∈ fp, ∀ o, s5.heap.get? b = some o → s'.heap.get? b = some o ∧ H' b = none := fun b hb o e =>
            let z := I'.pin (b, o) (List.mem_append_right _ (List.mem_append_right _ (mem_pinsAt hb e)))
            ⟨z.1, z.2.1⟩
          refine ⟨m', hm, j + 1, H', I'.unpinned.weak (by rw [← hw6, wipe_length, hl]) (fun j v e => hk j v (by rw [hw6]; exact e)), T.keep _ _ _ st5 fun b hb o e => (pin' b hb o e).1, fun b hb => ?_, w'⟩
          obtain ⟨o, e, _⟩ := T.obj _ _ st5 b hb
          exact (pin' b hb o e).2
        cases b with
        | false =>
          simp only [Bool.false_eq_true, if_false] at q7 ⊢
          exact back I7 rfl (fun j v e => (wipe_some e).1) q7
        | true =>
          simp only [if_true] at q7 ⊢
          refine ih hd1 I7 q7 fun {σ8 s' H'} I8 hl hk nx => back I8 hl (fun j v e => hk j v ?_) nx
          obtain ⟨q1, q2⟩ := wipe_some e
          rw [DP.wipe_out _ fun z => q2 (hv j z)]
          exact q1
    exact cStart e1 loop (T.self Y.A 0 _ _ _ st loop)
end DP
set_option Elab.async false
set_option linter.all false
set_option maxRecDepth 100000
/-! DP, part 34: list comprehensions of any number of clauses, as values. -/
namespace DP
open PySem PySem.Spec PyProof.Rows L2

def tLcN (wi : TI) (g : TG) (tt : TT) (cs : List (TI × TG × TT × List Nat)) (te : TE) (vs : List Nat) : TE := fun σ H Q => wi σ H fun J H1 => ∀ L, H1 L = none → ∃ W : Nat → Nat → Hp → Prop, (∃ m, W 0 m (upd H1 L (.lst []))) ∧ ∀ i m H, W i m H →
  (J.stop i H ∧ Q (.ref L) H) ∨ (J.go i H ∧ ∃ Nx : Hp → Prop, (∀ H', Nx H' → ∃ m', m' < m ∧ W (i + 1) m' H') ∧ ∀ x H', J.yld i H x H' → g x (wipe σ vs) H' fun σ2 H2 => wipe σ2 vs = wipe σ vs ∧ tt σ2 H2 fun b H3 => if b = true then tNest L cs te σ2 H3 Nx else Nx H3)
section
variable {X : Cx}
/-- an empty list, just made -/
abbrev lst0 : Obj := { cls := .type "list", data := .seq ([] : List Value).toArray }
abbrev dct0 : Obj := { cls := .type "dict", data := .dict #[] }
theorem pe_lcN {elt tg iter : Expr} {ifs : List Expr} {gs : List Comprehension} {scope : Scope} {own : List (Str × Nat)} {pos : Pos} {wi : TI} {g : TG} {tt : TT} {te : TE} {cs : List (TI × TG × TT × List Nat)} (hc : X.calm = true) (hN : X.N.Nodup) (hi : PI X tg iter wi) (ok : BlkOk X.N X.env.scope scope own)
    (hv : ∀ j ∈ allVs cs, j ∈ own.map (·.2)) (hg : ∀ s H C cl fp, PG (X.blk s H scope (compEnvC scope cl C X.env) fp) tg g) (ht : ∀ s H C cl fp, PTs (X.blk s H scope (compEnvC scope cl C X.env) fp) ifs tt)
    (hcs : ∀ s H C cl fp, NestOk (X.blk s H scope (compEnvC scope cl C X.env) fp) gs cs) (he : ∀ s H C cl fp, PE (X.blk s H scope (compEnvC scope cl C X.env) fp) elt te) (hs : ∀ x, foldedSetIterable iter X.env x = pure x := by intro _; rfl) :
    PE X (.ListComp elt (⟨tg, iter, ifs, 0⟩ :: gs) scope pos) (tLcN wi g tt cs te (own.map (·.2))) := by
  refine ⟨fun pins s σ H Q I h => ?_⟩
  rw [eval_ListComp]
  have free : ∀ y ∈ scope.names, y.2 = .free → ∃ c, X.env.cells.lookup y.1 = some c := fun y hy e => (ok.free y hy e).elim (fun k => I.ok.has _ (.inl k)) fun k => I.ok.has _ (.inr k)
  refine wpAny_comprehension_free (use := none) rfl hs (closure_ok free) ok.kind (fun y hy e => by rw [ok.uniq y hy, e]) (thn (hi.run pins s σ H _ I h) fun xv z1 hx => thn hx fun itv z2 h2 => ?_)
  obtain ⟨it, fp, tn, J, H2, e, I2, T, st2, f2, q⟩ := h2
  subst e
  refine wpAny_newObj_type (newEnv_comp ?_) (by show 0 ≤ sizeLine; decide)
  generalize hL : z2.heap.objs.size = L
  have nL : H2 L = none := I2.hok.fresh (Nat.le_of_eq hL)
  obtain ⟨W, ⟨m0, w0⟩, turn⟩ := q L nL
  generalize hz3 : ({ z2 with heap := z2.heap.push lst0 } : Shared) = z3
  have hp3 : z3.heap = z2.heap.push lst0 := by rw [← hz3]
  have I3 : Inv X pins σ (upd H2 L (.lst [])) z3 := by
    rw [← hz3]
    exact I2.laid (t' := z2.toks) (fun b o e => Heap.get?_push_of_some _ e) (Nat.le_of_eq hL) ⟨Nat.zero_le _, [], 0, .nil, by rw [← hL]; exact Heap.get?_push_size _ rfl⟩
  have lt : ∀ b ∈ fp, b < z2.heap.objs.size := fun b hb => let ⟨_, e, _⟩ := T.obj _ _ st2 b hb; Heap.lt_size e
  have f3 : ∀ b ∈ fp, FpOk X pins (upd H2 L (.lst [])) b ∧ b < z3.heap.objs.size := fun b hb =>
    ⟨⟨by rw [upd_ne (by rw [← hL]; exact Nat.ne_of_lt (lt b hb))]; exact (f2 b hb).1, (f2 b hb).2⟩, by rw [hp3, Heap.size_push]; exact Nat.lt_succ_of_lt (lt b hb)⟩
  have st3 : tn 0 z3.heap := T.keep _ _ _ st2 fun b _ o e => by rw [hp3]; exact Heap.get?_push_of_some _ e
  have I4 := block_start I3 ok hN f3
  generalize hH3 : upd H2 L (.lst []) = H3 at I3 I4 w0 f3
  have pg := hg z3 H3 z3.heap.objs.size (cellsFrom (z3.heap.objs.size + 1) scope.names (cloFrom X.env.cells scope.names [])) fp
  have pt := ht z3 H3 z3.heap.objs.size (cellsFrom (z3.heap.objs.size + 1) scope.names (cloFrom X.env.cells scope.names [])) fp
  have pe := he z3 H3 z3.heap.objs.size (cellsFrom (z3.heap.objs.size + 1) scope.names (cloFrom X.env.cells scope.names [])) fp
  have pn := hcs z3 H3 z3.heap.objs.size (cellsFrom (z3.heap.objs.size + 1) scope.names (cloFrom X.env.cells scope.names [])) fp
  have fp0 : ∀ b ∈ fp, H3 b = none := fun b hb => (f3 b hb).1.1
  show codeAny _ _ (.compStart (.ListComp elt (⟨tg, iter, ifs, 0⟩ :: gs) scope pos) 0 (.ref it) (.ref L) (compEnvC scope (cellsFrom (z3.heap.objs.size + 1) scope.names (cloFrom X.env.cells scope.names [])) z3.heap.objs.size X.env)) (compPost (model X.prog X.w) X.A X.xe none _ (.ref L) z3.heap.objs.size) { z3 with heap := pushCells (z3.heap.push dct0) scope.names }
  generalize hce : compEnvC scope (cellsFrom (z3.heap.objs.size + 1) scope.names (cloFrom X.env.cells scope.names [])) z3.heap.objs.size X.env = ce at I4 pg pt pe pn ⊢
  have cL : ce.locals = z3.heap.objs.size := by subst hce; rfl
  generalize hz4 : ({ z3 with heap := pushCells (z3.heap.push dct0) scope.names } : Shared) = z4 at I4 ⊢
  have st4 : tn 0 z4.heap := T.keep _ _ _ st3 fun b _ o e => by rw [← hz4]; exact pushCells_keeps _ _ _ _ (Heap.get?_push_of_some _ e)
  have stat : ∀ {σ' : L2.St} {H' : Hp} {s' : Shared}, Inv (X.blk z3 H3 scope ce fp) [] σ' H' s' → (∀ b ∈ fp, H' b = none) → ∀ b ∈ fp, FpOk (X.blk z3 H3 scope ce fp) [] H' b := fun {σ' H' s'} I' hn b hb =>
    ⟨hn b hb, (I'.ok.exf b hb).1, I'.ok.exfs b hb, .inl hb, fun x c e => (I'.ok.exf b hb).2 x c e, fun p hp => absurd (hp : p ∈ ([] : List (Addr × Obj)) ++ []) (by simp)⟩
  have loop : codeAny (model X.prog X.w) X.A (.compLoop (.ListComp elt (⟨tg, iter, ifs, 0⟩ :: gs) scope pos) 0 (.ref it) (.ref L) ce) (compPost (model X.prog X.w) X.A X.xe none (EP X pins σ Q) (.ref L) z3.heap.objs.size) z4 := by
    refine cLoop (gens := ⟨tg, iter, ifs, 0⟩ :: gs) rfl (fun g eg => pn.head ce g (by rw [List.head?_eq_getElem?]; exact eg)) (fun n s' => ∃ i H', Inv (X.blk z3 H3 scope ce fp) [] (wipe σ (own.map (·.2))) H' s' ∧ tn i s'.heap ∧ (∀ b ∈ fp, H' b = none) ∧ W i n H') ?_ m0 ⟨0, H3, I4, st4, fp0, w0⟩
    rintro n z5 ⟨i, H5, I5, st5, n5, w5⟩
    rcases turn i n H5 w5 with ⟨stop, qq⟩ | ⟨go, Nx, hNx, step⟩
    · refine thnF (T.done (X.blk z3 H3 scope ce fp) rfl rfl rfl hc i [] z5 _ H5 (fun _ _ => False) I5 (stat I5 n5) st5 stop) fun r z6 ⟨hr, I6⟩ => ?_
      subst hr
      have I7 : Inv X pins σ H5 z6 := I3.call' (ch := fp) I6.os I6.base I6.hok I6.bare fun b hb => let y := (f3 b hb).1.2; ⟨y.2.2.1, y.1, y.2.2.2.1, y.2.2.2.2⟩
      have nC : H5 z3.heap.objs.size = none := by rw [← cL]; exact I6.free
      obtain ⟨m, hn, _⟩ := I6.loc
      obtain ⟨f0, f1, f2, f3', f4, f5⟩ := I3.fpOk (Nat.le_refl _) nC
      exact ⟨m, (by rw [← cL]; exact hn), fun h'' sb => ⟨.ref L, H5, I7.turned (t' := z6.toks) (fun b o hb e => (sb.2 b hb).trans e) f0 f1 f3' f4 f5, rfl, qq⟩⟩
    · refine thnF (T.item (X.blk z3 H3 scope ce fp) rfl rfl rfl hc i [] z5 _ H5 (fun _ _ => False) I5 (stat I5 n5) st5 go) fun r z6 ⟨u, hr, h6⟩ => ?_
      subst hr
      refine thnF h6 fun _ z7 ⟨x, H7, I7, r7, y7, st7, n7⟩ => ?_
      have I7' := I7.pinned (stat I7 n7) (T.obj _ _ st7)
      refine thnF (pg.run _ z7 _ H7 x u _ I7' r7 (step x H7 y7)) fun _ z8 ⟨σ8, H8, I8, hw8, q8⟩ => ?_
      refine thnF (pt.run _ z8 σ8 H8 _ I8 q8) fun b z9 ⟨H9, I9, q9⟩ => ?_
      have fin : ∀ {σ9 : L2.St} {s' : Shared} {H' : Hp}, Inv (X.blk z3 H3 scope ce fp) ([] ++ pinsAt fp z7.heap) σ9 H' s' → σ9.length = σ8.length → (∀ (j : Nat) v, (wipe σ (own.map (·.2)))[j]? = some (some v) → σ9[j]? = some (some v)) → Nx H' →
          ∃ m, m < n ∧ ∃ i H', Inv (X.blk z3 H3 scope ce fp) [] (wipe σ (own.map (·.2))) H' s' ∧ tn i s'.heap ∧ (∀ b ∈ fp, H' b = none) ∧ W i m H' := fun {σ9 s' H'} I' hl hk nx => by
        obtain ⟨m', hm, w'⟩ := hNx H' nx
        have pin' : ∀ b ∈ fp, ∀ o, z7.heap.get? b = some o → s'.heap.get? b = some o ∧ H' b = none := fun b hb o e =>
          let z := I'.pin (b, o) (List.mem_append_right _ (List.mem_append_right _ (mem_pinsAt hb e)))
          ⟨z.1, z.2.1⟩
        refine ⟨m', hm, i + 1, H', (I'.unpinned (pins := [])).weak (by rw [hl, ← hw8, wipe_length]) hk, T.keep _ _ _ st7 fun b hb o e => (pin' b hb o e).1, fun b hb => ?_, w'⟩
        obtain ⟨o, e, _⟩ := T.obj _ _ st7 b hb
        exact (pin' b hb o e).2
      cases b with
      | false =>
        simp only [Bool.false_eq_true, if_false] at q9 ⊢
        exact fin I9 rfl (fun j v e => by rw [← hw8] at e; exact (wipe_some e).1) q9
      | true =>
        simp only [if_true] at q9 ⊢
        refine nest_run (Y := X.blk z3 H3 scope ce fp) hc rfl pe pn (gens := ⟨tg, iter, ifs, 0⟩ :: gs) (k := 1) rfl I9 q9 fun {σ9 s' H'} I' hl hk nx => fin I' hl (fun j v e => hk j v ?_) nx
        rw [← hw8] at e
        obtain ⟨e1, e2⟩ := wipe_some e
        rw [DP.wipe_out _ fun z => e2 (hv j z)]
        exact e1
  exact codeAny_compStart_list loop (T.self X.A 0 _ _ _ st4 loop)
end
end DP
set_option Elab.async false
set_option linter.all false
set_option maxRecDepth 100000
/-! DP, part 35: list comprehensions of any number of clauses, reckoned. -/
namespace DP
open PySem PySem.Spec PyProof.Rows L2

/-- a clause behind the first: what it walks, its target, its tests; us: the target's slots; vs: what is forgotten at each of its turns -/
structure ClD where
  it : IF
  g : GF
  ts : TF
  us : List Nat
  vs : List Nat
def loopL (inner : Ev → Out (List D × Ev)) (g : GF) (ts : TF) (vs : List Nat) : List D → Ev → Out (List D × Ev)
  | [], env => .ok ([], env)
  | x :: xs, env => match g x env with
    | none => .bad
    | some e1 => (ts e1).bind fun t => if t.1 = true then (inner t.2).bind fun y => (loopL inner g ts vs xs (wipeE y.2 vs)).bind fun r => .ok (y.1 ++ r.1, r.2) else loopL inner g ts vs xs (wipeE t.2 vs)
def nestL (el : XF) : List ClD → Ev → Out (List D × Ev)
  | [], env => (el env).bind fun y => .ok ([y.1], y.2)
  | c :: cs, env => (c.it env).bind fun r => loopL (nestL el cs) c.g c.ts c.vs r.1 (wipeE r.2 c.vs)
def xCompN (it : IF) (g : GF) (ts : TF) (cs : List ClD) (el : XF) (vs : List Nat) : XF := fun env => (it env).bind fun r => match loopL (nestL el cs) g ts vs r.1 (wipeE r.2 vs) with
  | .ok (ds, e) => if ds.length ≤ sizeLine then .ok (.list ds, backE r.2 e vs) else .bad
  | _ => .bad
def tiOf (X : Cx) (cs : List ClD) : List (TI × TG × TT × List Nat) := cs.map fun c => (tI X Wx0 c.it, tGt X c.us c.g, tT X Wx0 c.ts, c.vs)
def σAft (σ : L2.St) : List ClD → L2.St
  | [] => σ
  | c :: _ => L2.wipe σ c.vs
section
variable (X : Cx) (L : Addr) (W1 H1 : Hp) (A1 : List (List Addr)) (ρ : Nat → Addr)
/-- within a comprehension that makes the list L: done is in it -/
structure CSt (env : Ev) (σ : L2.St) (done : List D) (acc : List V) (W H : Hp) (A : List (List Addr)) : Prop where
  sr : SR X.K X.w ρ W H env σ A
  fr : Fr W1 H1 (ownd A1) W H (ownd A)
  nw : W L = none
  no : ¬ ownd A L
  at_ : H L = some (.lst acc)
  rp : RepL X.K X.w W done acc
variable {X L W1 H1 A1 ρ}
variable {env env' : Ev} {σ σ' : L2.St} {done : List D} {acc : List V} {W H W' H' : Hp} {A A' : List (List Addr)}
theorem CSt.step (C : CSt X L W1 H1 A1 ρ env σ done acc W H A) (S' : SR X.K X.w ρ W' H' env' σ' A') (F : Fr W H (ownd A) W' H' (ownd A')) : CSt X L W1 H1 A1 ρ env' σ' done acc W' H' A' := by
  refine ⟨S', C.fr.trans F, ?_, fun z => ?_, F.keep L _ C.at_ C.no, RepL.mono F.ext _ _ C.rp⟩
  · cases z : W' L with
    | none => rfl
    | some u =>
      rcases F.new L (by rw [z]; exact fun z => nomatch z) C.nw with q | q
      · exact absurd q C.no
      · rw [C.at_] at q; cases q
  · rcases F.own L z with q | q
    · exact C.no q
    · rw [C.at_] at q; cases q
theorem CSt.wipe (C : CSt X L W1 H1 A1 ρ env σ done acc W H A) (vs : List Nat) : CSt X L W1 H1 A1 ρ (wipeE env vs) (L2.wipe σ vs) done acc W H (wipeA A vs) :=
  C.step (C.sr.wipe vs) (fr_sub fun p h => ownd_wipe h)
theorem CSt.snoc (C : CSt X L W1 H1 A1 ρ env σ done acc W H A) (nL : H1 L = none) {d : D} {v : V} (r : Rep X.K X.w W d v) : CSt X L W1 H1 A1 ρ env σ (done ++ [d]) (acc ++ [v]) W (upd H L (.lst (acc ++ [v]))) A := by
  refine ⟨C.sr.keep (Same.refl _) (fun b u q => ?_) fun b hb => ⟨upd_ne fun e => C.no (e ▸ hb), (C.sr.own hb).1⟩, ⟨C.fr.ext, fun b u hb hp => ?_, C.fr.new, C.fr.own⟩, C.nw, C.no, upd_same, C.rp.snoc r⟩
  · rw [upd_ne (fun e => by rw [e, C.nw] at q; cases q)]
    exact C.sr.sub b u q
  · rw [upd_ne (fun e => by rw [e, nL] at hb; cases hb)]
    exact C.fr.keep b u hb hp
/-- what the clauses that are left do -/
def NestRd (X : Cx) (L : Addr) (W1 H1 : Hp) (A1 : List (List Addr)) (ρ : Nat → Addr) (el : XF) (cs : List ClD) : Prop := ∀ (σ : L2.St) (H W : Hp) (env : Ev) (A : List (List Addr)) (done : List D) (acc : List V) (ys : List D) (env' : Ev) (Nx : Hp → Prop),
  CSt X L W1 H1 A1 ρ env σ done acc W H A → nestL el cs env = .ok (ys, env') → done.length + ys.length ≤ sizeLine →
    (∀ W' H' A' acc', CSt X L W1 H1 A1 ρ env' (σAft σ cs) (done ++ ys) acc' W' H' A' → Same W W' → Nx H') → tNest L (tiOf X cs) (tX X Wx0 el) σ H Nx
/-- one clause's loop -/
theorem loop_read {el : XF} {cs : List ClD} {g : GF} {ts : TF} {us vs : List Nat} (hus : ∀ j ∈ us, j ∈ vs) (hcs : ∀ c ∈ cs.head?, ∀ j ∈ c.vs, j ∈ vs) (NR : NestRd X L W1 H1 A1 ρ el cs) {xs : List D} {J : It} {ys : List D} {envE : Ev} {Fin : Hp → Prop}
    (wk : Wk X.K X.w W xs J) (C : CSt X L W1 H1 A1 ρ env (L2.wipe σ vs) done acc W H A) (h : loopL (nestL el cs) g ts vs xs env = .ok (ys, envE)) (hz : done.length + ys.length ≤ sizeLine)
    (fin : ∀ W' H' A' acc', CSt X L W1 H1 A1 ρ envE (L2.wipe σ vs) (done ++ ys) acc' W' H' A' → Same W W' → Fin H') :
    ∃ W2 : Nat → Nat → Hp → Prop, (∃ m, W2 0 m H) ∧ ∀ j k H, W2 j k H → (J.stop j H ∧ Fin H) ∨
      (J.go j H ∧ ∃ Nx1 : Hp → Prop, (∀ H', Nx1 H' → ∃ k', k' < k ∧ W2 (j + 1) k' H') ∧ ∀ x H', J.yld j H x H' → tGt X us g x (L2.wipe σ vs) H' fun σ3 H5 => L2.wipe σ3 vs = L2.wipe σ vs ∧ tT X Wx0 ts σ3 H5 fun b H6 => if b = true then tNest L (tiOf X cs) (tX X Wx0 el) σ3 H6 Nx1 else Nx1 H6) := by
  refine ⟨fun i m H => m = xs.length - i ∧ i ≤ xs.length ∧ ∃ W2 env2 A2 done2 rest acc2, CSt X L W1 H1 A1 ρ env2 (L2.wipe σ vs) done2 acc2 W2 H A2 ∧ Same W W2 ∧ done2 ++ rest = done ++ ys ∧ loopL (nestL el cs) g ts vs (xs.drop i) env2 = .ok (rest, envE),
    ⟨xs.length, by simp, Nat.zero_le _, W, env, A, done, ys, acc, C, Same.refl _, rfl, h⟩, ?_⟩
  rintro i m H2 ⟨rfl, hi, W2, env2, A2, done2, rest, acc2, C2, s2, eq2, c2⟩
  by_cases hlt : i < xs.length
  · obtain ⟨x, hx⟩ : ∃ x, xs[i]? = some x := ⟨_, List.getElem?_eq_getElem hlt⟩
    have hd : xs.drop i = x :: xs.drop (i + 1) := by
      have e1 := List.drop_eq_getElem_cons hlt
      rw [List.getElem?_eq_getElem hlt] at hx
      cases hx
      exact e1
    rw [hd] at c2
    unfold loopL at c2
    refine .inr ⟨wk.go i H2 W2 s2 C2.sr.sub hlt, fun H => i + 1 ≤ xs.length ∧ ∃ W2 env2 A2 done2 rest acc2, CSt X L W1 H1 A1 ρ env2 (L2.wipe σ vs) done2 acc2 W2 H A2 ∧ Same W W2 ∧ done2 ++ rest = done ++ ys ∧ loopL (nestL el cs) g ts vs (xs.drop (i + 1)) env2 = .ok (rest, envE),
      fun H' ⟨q1, q2⟩ => ⟨xs.length - (i + 1), by omega, rfl, q1, q2⟩, fun v H4 y => ?_⟩
    obtain ⟨W4, e4, r4⟩ := wk.yld i H2 W2 v H4 x s2 C2.sr.sub hx y
    have S4 := C2.sr.ex e4
    cases eg : g x env2 with
    | none => rw [eg] at c2; cases c2
    | some env5 =>
      rw [eg] at c2
      simp only at c2
      refine ⟨ρ, W4, env2, A2, x, env5, S4, r4, eg, fun σ5 A5 S5 p5 a5 => ?_⟩
      have ws : L2.wipe σ5 vs = L2.wipe σ vs := by rw [wipe_agr a5 hus, wipe_wipe]
      have C5 : CSt X L W1 H1 A1 ρ env5 σ5 done2 acc2 W4 H4 A5 := C2.step S5 ((e4.fr _).trans (fr_sub p5))
      refine ⟨by rw [ws], step0 S5 c2 fun b W6 H6 env6 A6 k S6 F6 r6 c6 => ?_⟩
      subst r6
      have C6 := C5.step S6 F6
      have s6 := (s2.trans e4.ext).trans F6.ext
      cases k with
      | false =>
        simp only [Bool.false_eq_true, if_false] at c6
        have C7 := C6.wipe vs
        rw [ws] at C7
        exact iteF ⟨hlt, W6, _, _, done2, rest, acc2, C7, s6, eq2, c6⟩
      | true =>
        simp only [if_true] at c6
        refine iteT ?_
        cases en : nestL el cs env6 with
        | bad => rw [en] at c6; cases c6
        | exc c d e => rw [en] at c6; cases c6
        | ok yr =>
          obtain ⟨y1, env7⟩ := yr
          rw [en, Out.bind_ok] at c6
          cases ed : loopL (nestL el cs) g ts vs (xs.drop (i + 1)) (wipeE env7 vs) with
          | bad => rw [ed] at c6; cases c6
          | exc c d' e => rw [ed] at c6; cases c6
          | ok rr =>
            obtain ⟨rest', envE'⟩ := rr
            rw [ed, Out.bind_ok] at c6
            obtain ⟨c8, c9⟩ : y1 ++ rest' = rest ∧ envE' = envE := by
              injection c6 with c6
              injection c6 with c6 c9
              exact ⟨c6, c9⟩
            subst c9
            have hlen : done2.length + y1.length ≤ sizeLine := by
              have e1 := congrArg List.length eq2
              rw [← c8] at e1
              simp only [List.length_append] at e1
              omega
            refine NR σ5 H6 W6 env6 A6 done2 acc2 y1 env7 _ C6 en hlen fun W7 H7 A7 acc7 C7 s7 => ?_
            have C8 := C7.wipe vs
            have ws' : L2.wipe (σAft σ5 cs) vs = L2.wipe σ vs := by
              cases cs with
              | nil => exact ws
              | cons c cs' =>
                have z : L2.wipe (L2.wipe σ5 c.vs) vs = L2.wipe σ5 vs := wipe_agr (us := c.vs) ⟨wipe_length _ _, fun j hj => DP.wipe_out _ hj⟩ (hcs c (by simp))
                exact z.trans ws
            rw [ws'] at C8
            exact ⟨hlt, W7, _, _, done2 ++ y1, rest', acc7, C8, s6.trans s7, by rw [List.append_assoc, c8]; exact eq2, ed⟩
  · have ei : i = xs.length := by omega
    subst ei
    refine .inl ⟨wk.stop _ H2 W2 s2 C2.sr.sub (Nat.le_refl _), ?_⟩
    rw [List.drop_length] at c2
    unfold loopL at c2
    obtain ⟨rfl, rfl⟩ : rest = [] ∧ env2 = envE := by
      injection c2 with c2
      injection c2 with c2 c5
      exact ⟨c2.symm, c5⟩
    rw [List.append_nil] at eq2
    subst eq2
    exact fin W2 H2 A2 acc2 C2 s2
/-- targets within what is forgotten; what is forgotten within what is forgotten outside -/
inductive ClsIn : List ClD → Prop
  | nil : ClsIn []
  | cons {c : ClD} {cs : List ClD} (h : ∀ j ∈ c.us, j ∈ c.vs) (k : ∀ c' ∈ cs.head?, ∀ j ∈ c'.vs, j ∈ c.vs) (r : ClsIn cs) : ClsIn (c :: cs)
theorem nest_read (nL : H1 L = none) {el : XF} {cs : List ClD} (h : ClsIn cs) : NestRd X L W1 H1 A1 ρ el cs := by
  induction h with
  | nil =>
    intro σ H W env A done acc ys env' Nx C e hz fin
    unfold nestL at e
    refine step0 C.sr e fun d W7 H7 env7 A7 v7 S7 F7 r7 c7 => ?_
    obtain ⟨e1, e2⟩ : [d] = ys ∧ env7 = env' := by
      injection c7 with c7
      injection c7 with c7 c9
      exact ⟨c7, c9⟩
    subst e1 e2
    have C7 := C.step S7 F7
    refine ⟨acc, C7.at_, ?_, fin W7 _ A7 _ (C7.snoc nL r7) F7.ext⟩
    rw [C.rp.len]
    simp only [List.length_cons, List.length_nil] at hz
    omega
  | @cons c cs hu hk _ ih =>
    intro σ H W env A done acc ys env' Nx C e hz fin
    unfold nestL at e
    show tI X Wx0 c.it σ H _
    refine step0 C.sr e fun xs W4 H4 env4 A4 J S4 F4 wk c4 => ?_
    exact loop_read (us := c.us) (vs := c.vs) hu hk ih wk ((C.step S4 F4).wipe c.vs) c4 hz fun W' H' A' acc' C' s' => fin W' H' A' acc' C' (F4.ext.trans s')
end
section
variable {X : Cx} {Wx : WX} {it : IF} {g : GF} {ts : TF} {el : XF} {cs : List ClD} {us vs : List Nat} {σ : L2.St} {H : Hp} {Q : VK}
theorem compN_read (hus : ∀ j ∈ us, j ∈ vs) (hcs : ∀ c ∈ cs.head?, ∀ j ∈ c.vs, j ∈ vs) (hin : ClsIn cs) (h : tN X Wx (xCompN it g ts cs el vs) σ H Q) : tLcN (tI X Wx it) (tGt X us g) (tT X Wx0 ts) (tiOf X cs) (tX X Wx0 el) vs σ H Q := by
  obtain ⟨ρ, W, env, A, S, h⟩ := h
  unfold xCompN at h
  refine tN_then S h fun xs W1 H1 env1 A1 J S1 F1 wk h1 => ?_
  intro L nL
  cases ec : loopL (nestL el cs) g ts vs xs (wipeE env1 vs) with
  | bad => rw [ec] at h1; exact h1.elim
  | exc c d e => rw [ec] at h1; exact h1.elim
  | ok r =>
    obtain ⟨ds, envE⟩ := r
    simp only [ec] at h1
    by_cases hz : ds.length ≤ sizeLine
    · rw [if_pos hz] at h1
      have nW : W1 L = none := S1.sub.free nL
      have oL : ¬ ownd A1 L := fun z => by
        obtain ⟨_, u, hu⟩ := S1.own z
        rw [nL] at hu; cases hu
      have E := Ex.junk (o := .lst ([] : List V)) S1.sub nL
      have C : CSt X L W1 H1 A1 ρ env1 σ [] [] W1 (upd H1 L (.lst [])) A1 := ⟨S1.ex E, E.fr _, nW, oL, upd_same, RepL.nil⟩
      refine loop_read hus hcs (nest_read nL hin) wk (C.wipe vs) ec (by simpa using hz) fun W2 H2 A2 acc2 C2 s2 => ?_
      exact h1 W2 H2 _ L (SR.back C2.sr S1 s2) (C2.fr.trans (fr_sub fun p h => ownd_wipe h)) C2.nw ⟨acc2, C2.at_, C2.rp⟩ (fun z => C2.no (ownd_wipe z)) (.inr nL)
    · rw [if_neg hz] at h1
      exact h1.elim
end
/-- the clauses behind the first, judged within a block -/
inductive ClsOk (Y : Cx) : List Comprehension → List ClD → Prop
  | nil : ClsOk Y [] []
  | cons {tg iter : Expr} {ifs : List Expr} {it : IF} {g : GF} {ts : TF} {us vs : List Nat} {gs : List Comprehension} {cs : List ClD} (hi : EI Y Wx0 tg iter it) (hg : EG Y tg us g) (ht : EQ Y Wx0 ifs ts) (r : ClsOk Y gs cs) (hs : ∀ env x, foldedSetIterable iter env x = pure x := by intro _ _; rfl) :
      ClsOk Y (⟨tg, iter, ifs, 0⟩ :: gs) (⟨it, g, ts, us, vs⟩ :: cs)
theorem allVs_tiOf {X : Cx} {cs : List ClD} {j : Nat} (h : j ∈ allVs (tiOf X cs)) : ∃ c ∈ cs.head?, j ∈ c.vs := by
  cases cs with
  | nil => cases h
  | cons c cs => exact ⟨c, by simp, h⟩
theorem ClsOk.nest {Y X : Cx} {gs : List Comprehension} {cs : List ClD} (h : ClsOk Y gs cs) (e1 : Y.K = X.K) (e2 : Y.w = X.w) (e3 : Y.mg = X.mg) (hin : ClsIn cs) : NestOk Y gs (tiOf Y cs) := by
  induction h with
  | nil => exact .nil
  | cons hi hg ht r hs ih =>
    cases hin with
    | cons hu hk hr => exact .cons hi hg ht hs (fun j hj => let ⟨c, hc, hj'⟩ := allVs_tiOf hj; hk c hc j hj') (ih hr)
theorem en_compN {X : Cx} {Wx : WX} {it : IF} {g : GF} {ts : TF} {el : XF} {cs : List ClD} {us : List Nat} {elt tg iter : Expr} {ifs : List Expr} {gs : List Comprehension} {scope : Scope} {own : List (Str × Nat)} {pos : Pos} (hc : X.calm = true) (hN : X.N.Nodup) (hi : EI X Wx tg iter it)
    (ok : BlkOk X.N X.env.scope scope own) (hus : us ⊆ own.map (·.2)) (hin : ClsIn cs) (hh : ∀ c ∈ cs.head?, ∀ j ∈ c.vs, j ∈ own.map (·.2)) (hg : ∀ s H C cl fp, EG (X.blk s H scope (compEnvC scope cl C X.env) fp) tg us g)
    (ht : ∀ s H C cl fp, EQ (X.blk s H scope (compEnvC scope cl C X.env) fp) Wx0 ifs ts) (hcs : ∀ s H C cl fp, ClsOk (X.blk s H scope (compEnvC scope cl C X.env) fp) gs cs) (he : ∀ s H C cl fp, EX (X.blk s H scope (compEnvC scope cl C X.env) fp) Wx0 elt el)
    (hs : ∀ x, foldedSetIterable iter X.env x = pure x := by intro _; rfl) : EN X Wx (.ListComp elt (⟨tg, iter, ifs, 0⟩ :: gs) scope pos) (xCompN it g ts cs el (own.map (·.2))) :=
  PE.wk (pe_lcN hc hN hi ok (fun j hj => let ⟨c, hc, hj'⟩ := allVs_tiOf hj; hh c hc j hj') hg ht (fun s H C cl fp => (hcs s H C cl fp).nest (X := X) rfl rfl rfl hin) he hs) fun σ H Q h => compN_read (fun j hj => hus hj) hh hin h
theorem in_nil {vs : List Nat} : ∀ c ∈ ([] : List ClD).head?, ∀ j ∈ c.vs, j ∈ vs := fun _ h => nomatch h
theorem in_cons {c : ClD} {cs : List ClD} {vs : List Nat} (h : ∀ j ∈ c.vs, j ∈ vs) : ∀ c' ∈ (c :: cs).head?, ∀ j ∈ c'.vs, j ∈ vs := by
  intro c' e
  have e : c = c' := Option.some.inj e
  subst e
  exact h
theorem all_nil {α : Type} {P : α → Prop} : ∀ y ∈ ([] : List α), P y := fun _ h => nomatch h
theorem all_cons {α : Type} {P : α → Prop} {a : α} {l : List α} (h : P a) (r : ∀ y ∈ l, P y) : ∀ y ∈ a :: l, P y := fun y hy => (List.mem_cons.mp hy).elim (fun e => e ▸ h) (r y)
theorem refsVE_base : HandSPX.refsVE [.type "ValueError", .type "Exception", .type "BaseException", .type "object"] = true := by decide +kernel
theorem refsVE_one {c : Addr} : HandSPX.refsVE [.ref c, .type "ValueError", .type "Exception", .type "BaseException", .type "object"] = true := refsVE_base
end DP
set_option Elab.async false
set_option linter.all false
set_option maxRecDepth 100000
/-! DP, part 36: plain laws of the newer words. -/
namespace DP
open PySem L2
section
variable {env e1 : Ev} {f g : XF} {o : D → D → Option D} {next : D → XF} {x d : D} {b : SF} {hs : List Hd} {c : Str}
@[simp] theorem xChainN_ap {k : D → XF} : xChainN f k env = (f env).bind fun r => k r.1 r.2 := rfl
@[simp] theorem chainR_ap : chainR o g next x env = (g env).bind fun q => (liftO (o x q.1) q.2).bind fun t => (asB t).bind fun t => if t.1 = true then next q.1 t.2 else .ok (.bool false, t.2) := rfl
@[simp] theorem chainE_ap : chainE o g x env = (g env).bind fun q => liftO (o x q.1) q.2 := rfl
@[simp] theorem sRaise_ap : sRaise c f env = (f env).bind fun r => .exc c r.1 r.2 := rfl
@[simp] theorem xSortSetI_ap : xSortSetI f env = (f env).bind fun r => liftO (sortSetID r.1) r.2 := rfl
@[simp] theorem aStar_ap {l : AF} : aStar f l env = (f env).bind fun r => (seqO r.1).bind fun xs => (l r.2).bind fun q => .ok (xs ++ q.1, q.2) := rfl
@[simp] theorem seqO_l {ds : List D} : seqO (.list ds) = .ok ds := rfl
@[simp] theorem seqO_t {ds : List D} : seqO (.tuple ds) = .ok ds := rfl
@[simp] theorem isBD_b {p q : Bool} : isBD (.bool p) (.bool q) = some (.bool (decide (p = q))) := rfl
theorem runB_nx {n : Nat} {B : SF} {ds : List D} {e : Ev} (h : B (ds.map .fz ++ List.replicate (n - ds.length) .no) = .ok (.nx, e)) : runB n B ds = .ok .none := by unfold runB; rw [h]
theorem runB_exc {n : Nat} {B : SF} {ds : List D} {e : Ev} (h : B (ds.map .fz ++ List.replicate (n - ds.length) .no) = .exc c d e) : runB n B ds = .exc c d e := by unfold runB; rw [h]
end
theorem cmp_map {α : Type} {F : α → D} {g : GF} {ts : TF} {el : XF} {vs : List Nat} {env : Ev} {b : α → Bool} {f : α → D} : ∀ L : List α, (∀ a ∈ L, ∃ e1, g (F a) env = some e1 ∧ ts e1 = .ok (b a, e1) ∧ (b a = true → el e1 = .ok (f a, e1)) ∧ wipeE e1 vs = env) →
    cmpL g ts el vs (L.map F) env = .ok ((L.filter b).map f, env)
  | [], _ => rfl
  | a :: L, h => by
    obtain ⟨e1, h1, h2, h3, h4⟩ := h a List.mem_cons_self
    have ih := cmp_map (F := F) (g := g) (ts := ts) (el := el) (vs := vs) (env := env) (b := b) (f := f) L fun x hx => h x (List.mem_cons_of_mem _ hx)
    rw [List.map_cons]
    unfold cmpL
    rw [h1]
    simp only [h2, Out.bind_ok]
    cases hb : b a with
    | false =>
      simp only [Bool.false_eq_true, if_false]
      rw [h4, ih, List.filter_cons_of_neg (by rw [hb]; decide)]
    | true =>
      simp only [if_true, h3 hb, Out.bind_ok]
      rw [h4, ih, List.filter_cons_of_pos hb]
      rfl
theorem filter_true {α : Type} (L : List α) : L.filter (fun _ => true) = L := by simp
theorem cmp_mapT {α : Type} {F : α → D} {g : GF} {el : XF} {vs : List Nat} {env : Ev} {f : α → D} (L : List α) (h : ∀ a ∈ L, ∃ e1, g (F a) env = some e1 ∧ el e1 = .ok (f a, e1) ∧ wipeE e1 vs = env) : cmpL g tTrue el vs (L.map F) env = .ok (L.map f, env) := by
  have q := cmp_map (F := F) (g := g) (ts := tTrue) (el := el) (vs := vs) (env := env) (b := fun _ => true) (f := f) L fun a ha => let ⟨e1, h1, h2, h3⟩ := h a ha; ⟨e1, h1, rfl, fun _ => h2, h3⟩
  rwa [filter_true] at q
theorem enumF_map {α : Type} (F : α → D) : ∀ (n : Nat) (L : List α), enumF n (L.map F) = (L.zipIdx n).map fun p => .tuple [.int (p.2 : Nat), F p.1]
  | _, [] => rfl
  | n, a :: L => by
    rw [List.map_cons, List.zipIdx_cons, List.map_cons, ← enumF_map F (n + 1) L]
    rfl
theorem zip_filter {α : Type} (b : α → Bool) : ∀ (n : Nat) (L : List α), ((L.zipIdx n).filter fun p => b p.1).map (·.1) = L.filter b
  | _, [] => rfl
  | n, a :: L => by
    rw [List.zipIdx_cons]
    cases h : b a with
    | true => rw [List.filter_cons_of_pos (by exact h), List.filter_cons_of_pos h, List.map_cons, zip_filter b (n + 1) L]
    | false => rw [List.filter_cons_of_neg (by rw [h]; decide), List.filter_cons_of_neg (by rw [h]; decide), zip_filter b (n + 1) L]
/-- a loop that looks for the first one and returns there, or goes through -/
theorem for_first {α : Type} {F : α → D} {g : GF} {body : SF} {b : α → Bool} {k : α → D} (I : Ev → Prop) : ∀ (L : List α) (env : Ev), (∀ a ∈ L, ∀ env, I env → ∃ e1, g (F a) env = some e1 ∧ (b a = true → ∃ e2, body e1 = .ok (.rt (k a), e2)) ∧ (b a = false → ∃ e2, body e1 = .ok (.nx, e2) ∧ I e2)) → I env →
    (∃ a e2, L.find? b = some a ∧ forL g body (L.map F) env = .ok (.rt (k a), e2)) ∨ ∃ e2, L.find? b = none ∧ forL g body (L.map F) env = .ok (.nx, e2) ∧ I e2
  | [], env, _, h => .inr ⟨env, rfl, rfl, h⟩
  | a :: L, env, h, hI => by
    obtain ⟨e1, h1, h2, h3⟩ := h a List.mem_cons_self env hI
    rw [List.map_cons]
    cases hb : b a with
    | true =>
      obtain ⟨e2, h4⟩ := h2 hb
      refine .inl ⟨a, e2, by rw [List.find?_cons_of_pos hb], ?_⟩
      unfold forL
      rw [h1]
      simp only [h4, Out.bind_ok]
    | false =>
      obtain ⟨e2, h4, h5⟩ := h3 hb
      have e : forL g body (F a :: L.map F) env = forL g body (L.map F) e2 := by
        conv => lhs; unfold forL
        rw [h1]
        simp only [h4, Out.bind_ok]
      rw [e, List.find?_cons_of_neg (by rw [hb]; decide)]
      exact for_first I L e2 (fun x hx => h x (List.mem_cons_of_mem _ hx)) h5
/-- a loop that reckons something: I by the items left -/
theorem for_fold {α β : Type} {F : α → D} {g : GF} {body : SF} {st : β → α → β} (I : Nat → β → Ev → Prop) : ∀ (L : List α) (b : β) (env : Ev), (∀ a ∈ L, ∀ n b env, I (n + 1) b env → ∃ e1 e2, g (F a) env = some e1 ∧ body e1 = .ok (.nx, e2) ∧ I n (st b a) e2) → I L.length b env →
    ∃ e2, forL g body (L.map F) env = .ok (.nx, e2) ∧ I 0 (L.foldl st b) e2
  | [], b, env, _, h => ⟨env, rfl, h⟩
  | a :: L, b, env, h, hI => by
    obtain ⟨e1, e2, h1, h2, h3⟩ := h a List.mem_cons_self L.length b env hI
    obtain ⟨e3, h4, h5⟩ := for_fold I L (st b a) e2 (fun x hx => h x (List.mem_cons_of_mem _ hx)) h3
    refine ⟨e3, ?_, h5⟩
    rw [List.map_cons]
    conv => lhs; unfold forL
    rw [h1]
    simp only [h2, Out.bind_ok]
    exact h4
theorem loop_map {α : Type} {F : α → D} {inner : Ev → Out (List D × Ev)} {g : GF} {vs : List Nat} {env : Ev} {f : α → List D} : ∀ L : List α, (∀ a ∈ L, ∃ e1 e2, g (F a) env = some e1 ∧ inner e1 = .ok (f a, e2) ∧ wipeE e2 vs = env) → loopL inner g tTrue vs (L.map F) env = .ok (L.flatMap f, env)
  | [], _ => rfl
  | a :: L, h => by
    obtain ⟨e1, e2, h1, h2, h3⟩ := h a List.mem_cons_self
    have ih := loop_map (F := F) (inner := inner) (g := g) (vs := vs) (env := env) (f := f) L fun x hx => h x (List.mem_cons_of_mem _ hx)
    rw [List.map_cons]
    unfold loopL
    rw [h1]
    simp only [tTrue_ap, Out.bind_ok, if_true, h2, h3, ih]
    rfl
theorem foldl_app {α β : Type} (f : α → List β) : ∀ (L : List α) (b : List β), L.foldl (fun b a => b ++ f a) b = b ++ L.flatMap f
  | [], b => by simp
  | a :: L, b => by rw [List.foldl_cons, foldl_app f L, List.flatMap_cons, List.append_assoc]
theorem setZ_len (L : List Int) : (setZ L).length ≤ L.length := by
  unfold setZ
  rw [List.length_mergeSort]
  exact dups_len _ L (Nat.le_refl _)
theorem sortSetI_ok {xs : List Int} (h : xs.length < 64) : sortSetID (.list (xs.map .int)) = some (.list ((setZ xs).map .int)) := by
  simp only [sortSetID, intsD_map, List.length_map, if_pos h]
end DP
set_option Elab.async false
set_option linter.all false
set_option maxRecDepth 100000
/-! DP, part 37: list(x) and sorted(x), x a dict too. -/
namespace DP
open PySem PySem.Spec PyProof.Rows L2

theorem items_keys {es : Array DictEntry} {acc : Array Value} (it : PySem.ItemsOf (fun i v => ∃ en : DictEntry, es[i]? = some en ∧ v = en.key) acc es.size) : acc.toList = es.toList.map (·.key) := by
  have hl : acc.toList.length = es.size := by rw [Array.length_toList]; exact it.1
  apply List.ext_getElem?
  intro j
  rw [List.getElem?_map]
  cases hj : acc.toList[j]? with
  | none =>
    have h1 := List.getElem?_eq_none_iff.mp hj
    rw [List.getElem?_eq_none (by rw [Array.length_toList]; omega)]
    rfl
  | some v =>
    obtain ⟨en, hen, hv⟩ := it.2 j v (by rw [← Array.getElem?_toList]; exact hj)
    rw [Array.getElem?_toList, hen, hv]
    rfl
theorem keys_vals {K : PySem.W.Frag} {w : World} {W : Hp} : ∀ {kvs : List (D × D)} {es : List DictEntry}, RepKV K w W kvs es → ∃ vs, Vals vs (es.map (·.key)) ∧ RepL K w W (kvs.map (·.1)) vs
  | [], es, h => by
    simp only [RepKV] at h
    subst h
    exact ⟨[], .nil, RepL.nil⟩
  | (k, d) :: r, es, h => by
    simp only [RepKV] at h
    obtain ⟨e, q, rfl, _, ⟨x, h1, h2⟩, _, h3⟩ := h
    obtain ⟨vs, a, b⟩ := keys_vals h3
    exact ⟨x :: vs, .cons h1 a, RepL.cons h2 b⟩
def listD2 : List D → Option D
  | [.list ds] => some (.list ds)
  | [.tuple ds] => some (.list ds)
  | [.dict kvs] => some (.list (kvs.map (·.1)))
  | _ => none
def sortedD2 : List D → Option D
  | [.list ds] => if srtOk ds = true then some (.list (sortL ds)) else none
  | [.dict kvs] => if srtOk (kvs.map (·.1)) = true then some (.list (sortL (kvs.map (·.1)))) else none
  | _ => none

section
variable {prog : Program} {w : World} {A : Around} {E : Value → Shared → Prop} {s : Shared} {d : Addr} {o : Obj} {es : Array DictEntry} {ep : Nat}
/-- the keys of a dict as sorted takes them up; the heap has grown -/
theorem collect_raw {R : List Value → Shared → Prop} (hh : A.handled = none) (lo : (d == sysModules) = false) (hx : o.ExactDict) (hd : o.data = .dict es ep) (ho : s.heap.get? d = some o) (hn : es.size ≤ sizeLine)
    (h : ∀ (g : Heap) (tk : Nat), (∀ b o, s.heap.get? b = some o → g.get? b = some o) → s.heap.objs.size < g.objs.size → R (es.toList.map (·.key)) { s with heap := g, toks := tk }) : wpAny (model prog w) A (collect (.ref d)) R E s := by
  have lt := Heap.lt_size ho
  unfold collect
  refine wpAny_bind (wpAny_runValue (codeAny_builtin PyProof.Rows.entry_proto_collect' ?_))
  rw [Around.under_plainId PySem.F.plain_proto_collect _]; show wpAny _ A.in1 (newList [] >>= fun l => again (.builtin "list.__iadd__" ⟨[l, .ref d], []⟩)) _ _ s
  refine wpAny_bind (wpAny_newObj_type (wpAny_pure ⟨plainId_quiet PySem.F.plain_list_iadd _, codeAny_builtin entry_list_iadd' ?_⟩))
  rw [Around.under_plainId PySem.F.plain_list_iadd _]; show wpAny _ A.in1 (Builtin.List.listExtendWith (.ref s.heap.objs.size) (.ref d) (.ref s.heap.objs.size)) _ _ _
  have hS : (s.heap.push { cls := .type "list", data := .seq ([] : List Value).toArray }).get? s.heap.objs.size = some { cls := .type "list", data := .seq #[] } := Heap.get?_push_size _ rfl
  have key := PySem.W.kdl_extend (prog := prog) (w := w) (A := A) (s := { s with heap := s.heap.push { cls := .type "list", data := .seq ([] : List Value).toArray } }) (R := fun (q : Result) (s' : Shared) => ∃ (g : Heap) (tk c : Nat) (l : Array Value), q = .ok (.ret (.ref s.heap.objs.size)) ∧ s' = { s with heap := g, toks := tk } ∧ (∀ b o, s.heap.get? b = some o → g.get? b = some o) ∧
      g.get? s.heap.objs.size = some { cls := .type "list", dict := none, data := .seq l c, slots := #[] } ∧ l.toList = es.toList.map (·.key)) (kdl_raw lo hx hd) hh (Heap.get?_push_of_some _ ho) s.heap.objs.size (Nat.ne_of_gt lt) (Nat.ne_of_gt lt) (.ref s.heap.objs.size) 0 hS
    (fun g tk l c hk e it => ⟨g, tk, c, l, rfl, rfl, fun b o q => hk b o (Nat.ne_of_lt (Heap.lt_size q)) (Heap.get?_push_of_some _ q), e, items_keys it⟩) hn
  refine wpAny_mono key (fun fin s' x => ?_) fun e s' x => by
    obtain ⟨_, _, _, _, z, _⟩ := x
    cases z
  match fin, x with
  | .done f, x =>
    obtain ⟨g, tk, c, l, z, rfl, hk, e, el⟩ := x
    cases z
    show wpAny _ A (load s.heap.objs.size >>= _) _ _ _
    exact wpAny_bind (wpAny_load e (wpAny_pure (el ▸ h g tk hk (Heap.lt_size e))))
  | .again c₁, x =>
    refine ⟨x.1, codeAny_mono x.2 fun q s₂ y => ?_⟩
    obtain ⟨g, tk, c, l, rfl, rfl, hk, e, el⟩ := y
    show wpAny _ A (load s.heap.objs.size >>= _) _ _ _
    exact wpAny_bind (wpAny_load e (wpAny_pure (el ▸ h g tk hk (Heap.lt_size e))))
/-- sorted(d) up to the sort of the keys -/
theorem sorted_raw {Q : Value → Shared → Prop} (hh : A.handled = none) (lo : (d == sysModules) = false) (hx : o.ExactDict) (hd : o.data = .dict es ep) (ho : s.heap.get? d = some o) (hn : es.size ≤ sizeLine)
    (h : ∀ (h' : Heap) (tk : Nat), (∀ b o, s.heap.get? b = some o → h'.get? b = some o) → s.heap.objs.size < h'.objs.size →
      wpAny (model prog w) A.in1 (call (.builtin "list.sort") [.ref h'.objs.size]) (fun _ s' => Q (.ref h'.objs.size) s') E { s with heap := h'.push { cls := .type "list", data := .seq (es.toList.map (·.key)).toArray }, toks := tk }) :
    wpAny (model prog w) A (call (.builtin "sorted") [.ref d]) Q E s := by
  refine PySem.Calls.call_function_entry kind_sorted plain_sorted entry_sorted (args_sorted1 _) ?_
  unfold Builtin.«sorted»
  refine wpAny_bind (m := checkCount "sorted" 1 1 _) (wpAny_pure ?_)
  refine wpAny_bind (collect_raw (A := A.in1) hh lo hx hd ho hn fun h' tk hk hlt => ?_)
  refine wpAny_bind (wpAny_newList ?_ (by rw [List.length_map, Array.length_toList]; exact hn))
  have hg := h h' tk hk hlt
  refine wpAny_bind (wpAny_holding (wpAny_mono hg (fun _ s' x => ?_) fun _ _ e => e))
  exact wpAny_pure ⟨_, rfl, x⟩
end
section
variable {X : Cx}
theorem cr_listD2 (hc : X.calm = true) : CallR X (.type "list") (tWn X.K X.w listD2) := by
  intro pins s σ H xs us Q I r h
  obtain ⟨W, ds, sm, rl, h⟩ := h
  unfold listD2 at h
  split at h
  · exact cr_list pins s σ H xs us Q I r ⟨W, _, sm, rl, h⟩
  · exact cr_list pins s σ H xs us Q I r ⟨W, _, sm, rl, h⟩
  · rename_i kvs
    obtain ⟨v, rfl, rv⟩ := rl.one
    simp only [Rep] at rv
    obtain ⟨a, es, ep, rfl, ha, kv, nd⟩ := rv
    obtain ⟨u, rfl, ru⟩ := vals1 r
    cases ru
    obtain ⟨⟨d1, d2, d3⟩, _⟩ := I.hok a _ (sm _ _ ha)
    refine PySem.W.kdl_call (kdl_raw d1 ⟨rfl, rfl, rfl⟩ rfl) (I.ok.hd hc) d3 d2 fun h' tk acc' c' kp e it => ?_
    have ek := items_keys it
    obtain ⟨vs, v1, v2⟩ := keys_vals kv
    have hz : vs.length ≤ sizeLine := by
      rw [v2.len, List.length_map, ← kv.len, Array.length_toList]
      exact d2
    refine ⟨.ref s.heap.objs.size, _, I.laid (t' := tk) (o := .lst vs) kp (Nat.le_refl _) ⟨hz, acc'.toList, c', by rw [ek]; exact v1, by rw [Array.toArray_toList]; exact e⟩, rfl, h.lst sm v2 (I.hok.fresh (Nat.le_refl _))⟩
  · exact h.elim
theorem cr_sortedD2 (hc : X.calm = true) (hu : X.A.units + 64 < cLine) : CallR X (.builtin "sorted") (tWn X.K X.w sortedD2) := by
  intro pins s σ H xs us Q I r h
  obtain ⟨W, ds, sm, rl, h⟩ := h
  unfold sortedD2 at h
  split at h
  · exact cr_sortedD hu pins s σ H xs us Q I r ⟨W, _, sm, rl, h⟩
  · rename_i kvs
    split at h
    · rename_i ok
      obtain ⟨v, rfl, rv⟩ := rl.one
      simp only [Rep] at rv
      obtain ⟨a, es, ep, rfl, ha, kv, nd⟩ := rv
      obtain ⟨u, rfl, ru⟩ := vals1 r
      cases ru
      obtain ⟨⟨d1, d2, d3⟩, _⟩ := I.hok a _ (sm _ _ ha)
      refine sorted_raw (I.ok.hd hc) d1 ⟨rfl, rfl, rfl⟩ rfl d3 d2 fun h' tk hk hlt => ?_
      obtain ⟨vs, v1, v2⟩ := keys_vals kv
      obtain ⟨e1, e2⟩ := each_reads I sm v2 v1
      have hz : (kvs.map (·.1)).length ≤ sizeLine := by
        rw [List.length_map, ← kv.len, Array.length_toList]
        exact d2
      have hob : (h'.push { cls := .type "list", data := .seq (es.toList.map (·.key)).toArray }).get? h'.objs.size = some (seqObj "list" (es.toList.map (·.key)).toArray 0) := Heap.get?_push_size _ rfl
      have kb : ∀ b o, s.heap.get? b = some o → (h'.push { cls := .type "list", data := .seq (es.toList.map (·.key)).toArray }).get? b = some o := fun b o e => Heap.get?_push_of_some _ (hk b o e)
      have ne0 : ∀ b o, s.heap.get? b = some o → b ≠ h'.objs.size := fun b o e => Nat.ne_of_lt (Heap.lt_size (hk b o e))
      generalize hh2 : h'.push { cls := .type "list", data := .seq (es.toList.map (·.key)).toArray } = h2 at hob kb ⊢
      have e3 : PySem.W.EachIs (fun (u : Value) (d : D) => ∃ as, Reads h2 u (id d) as ∧ h'.objs.size ∉ as) (es.toList.map (·.key)) (kvs.map (·.1)) := e2.mono fun u d ⟨as, rd⟩ => ⟨as, PyProof.Rows.Reads.keeps kb rd, fun hm => by
        exact absurd (Nat.lt_trans hlt (reads_there rd _ hm)) (Nat.lt_irrefl _)⟩
      refine PySem.W.list_sort_data (s := { s with heap := h2, toks := tk }) (bs := kvs.map (·.1)) (enc := id) (R := fun u d => ∃ v, RelV v u ∧ Rep X.K X.w W d v) hob e1 e3 (srtOk_alike ok) (srtOk_sortable ok) hz (fun b hb => ?_) fun out hl he => ?_
      · have := srtOk_depth ok b hb
        show X.A.units + 1 + 1 + b.depth < cLine
        omega
      · obtain ⟨ys, ry, ly⟩ := vals_of_each (P := fun _ _ => True) he
        obtain ⟨c, hcc⟩ := sortedHeap_at (vs := es.toList.map (·.key)) (out := out.toArray) hob
        have nf : H h'.objs.size = none := I.hok.fresh (Nat.le_of_lt hlt)
        have kS : ∀ b o, s.heap.get? b = some o → (sortedHeap h2 h'.objs.size (es.toList.map (·.key)) out.toArray).get? b = some o := fun b o e => (sortedHeap_old (ne0 _ _ e) (Heap.lt_size (kb _ _ e))).trans (kb _ _ e)
        refine ⟨.ref _, upd H h'.objs.size (.lst ys), I.laid (t' := tk) kS (Nat.le_of_lt hlt) ⟨?_, out, c, ry, hcc⟩, rfl, h.lst sm ly nf⟩
        rw [ly.len]
        show ((kvs.map (·.1)).mergeSort _).length ≤ _
        rw [List.length_mergeSort]
        exact hz
    · exact h.elim
  · exact h.elim
end
/-! ### what is walked: a list, a tuple, a dict's keys -/
/-- the keys vs of the dict at d -/
def Itr (d : Addr) (es : Array DictEntry) (ep : Nat) (vs : List V) : It :=
  ⟨fun i H => H d = some (dicO d es ep) ∧ i < es.size, fun i H x H' => H' = H ∧ vs[i]? = some x, fun i H => H d = some (dicO d es ep) ∧ es.size ≤ i⟩
theorem vals_at : ∀ {vs : List V} {us : List Value} {i : Nat} {u : Value}, Vals vs us → us[i]? = some u → ∃ v, vs[i]? = some v ∧ RelV v u
  | _, _, _, _, .nil, h => by simp at h
  | _, _, 0, _, .cons r _, h => by cases h; exact ⟨_, rfl, r⟩
  | _, _, i + 1, _, .cons _ t, h => vals_at (i := i) t (by simpa using h)
theorem turn_raw {P : Program} {w : World} {K : PySem.W.Frag} {tg : Expr} {d : Addr} {es : Array DictEntry} {ep : Nat} {vs : List V} (it : Addr) (hv : Vals vs (es.toList.map (·.key))) : Turn P w K tg (Itr d es ep vs) [it] it (fun i h => h.IsKeyIter it d i es.size ep) where
  mem := by simp
  obj := fun i h st b hb => by
    obtain rfl : b = it := by simpa using hb
    obtain ⟨oi, e, c, dd⟩ := st
    exact ⟨oi, e, fun v z => by rw [dd] at z; cases z⟩
  keep := fun i h h' st k => st.at fun oi e => k it (by simp) oi e
  item := by
    intro X hP hw hK hc i pins s σ H E I hf st ⟨hd, hi⟩
    subst hP hw hK
    obtain ⟨f0, f1, f2, f3, f4, f5⟩ := hf it (by simp)
    obtain ⟨⟨d1, d2, d3⟩, _⟩ := I.hok d _ hd
    have hen : es[i]? = some es[i] := Array.getElem?_eq_getElem hi
    obtain ⟨v, h1, h2⟩ := vals_at (i := i) (u := es[i].key) hv (by rw [List.getElem?_map, Array.getElem?_toList, hen]; rfl)
    refine next_key_item st d3 rfl rfl hen fun h' st' sb => ?_
    have I1 : Inv X pins σ H { s with heap := h' } := I.turned (t' := s.toks) (fun b ob hb e => (sb.2 b hb).trans e) f0 f1 f3 f4 f5
    obtain ⟨oi, e, c, dd⟩ := id st'
    exact ⟨_, rfl, go_of (s := { s with heap := h' }) e c dd (by decide) ⟨v, H, I1, h2, ⟨rfl, h1⟩, st', fun b hb => (hf b hb).1⟩⟩
  done := by
    intro X hP hw hK hc i pins s σ H E I hf st ⟨hd, hi⟩
    subst hP hw hK
    obtain ⟨f0, f1, f2, f3, f4, f5⟩ := hf it (by simp)
    obtain ⟨⟨d1, d2, d3⟩, _⟩ := I.hok d _ hd
    exact next_key_end (I.ok.hd hc) st d3 rfl rfl hi fun h' eb => ⟨rfl, I.turned (t' := s.toks) (fun b ob hb e => eb b ob hb e) f0 f1 f3 f4 f5⟩
  self := fun A i s Q E st h => wpAny_pyIter_keyiter st h
theorem wk_raw {K : PySem.W.Frag} {w : World} {W : Hp} {a : Addr} {es : Array DictEntry} {ep : Nat} {ds : List D} {vs : List V} (q : W a = some (dicO a es ep)) (r : RepL K w W ds vs) (hl : ds.length = es.size) : Wk K w W ds (Itr a es ep vs) where
  go i H W2 s1 s2 hi := ⟨s2 _ _ (s1 _ _ q), by omega⟩
  stop i H W2 s1 s2 hi := ⟨s2 _ _ (s1 _ _ q), by omega⟩
  yld i H W2 v H' x s1 s2 hx y := by
    obtain ⟨rfl, hv⟩ := y
    obtain ⟨v', h1, h2⟩ := r.at hx
    rw [hv] at h1
    cases h1
    exact ⟨W2, Ex.refl s2, Rep.mono s1 _ _ h2⟩
def itD : D → Option (List D)
  | .list ds => some ds
  | .tuple ds => some ds
  | .dict kvs => some (kvs.map (·.1))
  | _ => none
def iIt (f : XF) : IF := fun env => (f env).bind fun r => liftO (itD r.1) r.2
section
variable {X : Cx} {Wx : WX} {tg e : Expr} {f : XF}
theorem pi_raw {tl : TE} (hl : PE X e tl) : PI X tg e (fun σ H R => tl σ H fun x H1 => (∃ a, x = .ref a ∧ (∃ xs, SqL X.K H1 a xs) ∧ R (Itl X.K a) H1) ∨ (∃ a, x = .ref a ∧ (∃ xs, SqT X.K H1 a xs) ∧ R (Itt X.K a) H1) ∨
    (∃ a es ep vs, x = .ref a ∧ H1 a = some (dicO a es ep) ∧ Vals vs (es.toList.map (·.key)) ∧ R (Itr a es ep vs) H1)) := by
  refine ⟨fun pins s σ H R I h => ?_⟩
  refine thn (hl.run pins s σ H _ I h) fun u s1 ⟨x, H1, I1, r1, q1⟩ => ?_
  rcases q1 with ⟨a, ex, ⟨xs, hq⟩, q⟩ | ⟨a, ex, ⟨xs, hq⟩, q⟩ | ⟨a, es, ep, vs, ex, hd, hv, q⟩
  · subst ex
    cases r1
    obtain ⟨us, _, pl, _⟩ := I1.list hq
    exact wpAny_pyIter_list pl.isList (pi_one (tk := s1.toks) I1 _ (turn_list a _) ⟨_, Heap.get?_push_size _ rfl, rfl, rfl⟩ q)
  · subst ex
    cases r1
    obtain ⟨us, _, pl, _⟩ := I1.tuple hq
    exact wpAny_pyIter_tuple (show s1.heap.IsTuple a us.toArray from pl) (pi_one (tk := s1.toks) I1 _ (turn_tuple a _) ⟨_, Heap.get?_push_size _ rfl, rfl, rfl⟩ q)
  · subst ex
    cases r1
    obtain ⟨⟨d1, d2, d3⟩, _⟩ := I1.hok a _ hd
    exact iter_keys d1 d3 ⟨rfl, rfl, rfl⟩ rfl (pi_one (tk := s1.toks) I1 _ (turn_raw _ hv) ⟨_, Heap.get?_push_size _ rfl, rfl, rfl⟩ q)
theorem ei_it (h : EX X Wx e f) : EI X Wx tg e (iIt f) := by
  refine PI.wk (pi_raw h) ?_
  rintro σ H R ⟨ρ, W, env, A, S, h⟩
  refine tG_then S h fun d W1 H1 env1 A1 v S1 F1 r1 h1 => ?_
  cases d with
  | list ds =>
    simp only [Rep] at r1
    obtain ⟨a, vs, rfl, q, l⟩ := r1
    exact .inl ⟨a, rfl, ⟨vs, .of (S1.sub _ _ q)⟩, wk_of S1 h1 rfl (wk_list q l)⟩
  | tuple ds =>
    simp only [Rep] at r1
    obtain ⟨a, vs, rfl, q, l⟩ := r1
    exact .inr (.inl ⟨a, rfl, ⟨vs, Same.sqt S1.sub q⟩, wk_of S1 h1 rfl (wk_tup q l)⟩)
  | dict kvs =>
    simp only [Rep] at r1
    obtain ⟨a, es, ep, rfl, q, kv, nd⟩ := r1
    obtain ⟨vs, v1, v2⟩ := keys_vals kv
    exact .inr (.inr ⟨a, es, ep, vs, rfl, S1.sub _ _ q, v1, wk_of S1 h1 rfl (wk_raw q v2 (by rw [List.length_map, ← kv.len, Array.length_toList]))⟩)
  | _ => exact h1.elim
end
end DP
set_option Elab.async false
set_option linter.all false
set_option maxRecDepth 100000
/-! DP, part 38: k in d; reads of one's own containers that leave them one's own. -/
namespace DP
open PySem PySem.Spec PyProof.Rows L2

/-! ### k in d -/
def rInDic (X : Cx) (neg : Bool) : R2 := fun x y H Q => ∃ W a es ep k kvs, y = .ref a ∧ Same W H ∧ Rep X.K X.w W k x ∧ keyOk k = true ∧ H a = some (dicO a es ep) ∧ RepKV X.K X.w W kvs es.toList ∧ (kvs.map fun p => keyD p.1).Nodup ∧ Q (.bl (if neg then !kvs.any (kIs k) else kvs.any (kIs k))) H
section
variable {X : Cx} {Wx : WX}
theorem dic_has {pins : List (Addr × Obj)} {s : Shared} {σ : L2.St} {H W : Hp} {a : Addr} {es : Array DictEntry} {ep : Nat} {k : D} {kvs : List (D × D)} {x : V} {u : Value} {Q : Bool → Shared → Prop} {E : Value → Shared → Prop} (hu : X.A.units + 64 < cLine) (I : Inv X pins σ H s) (sm : Same W H) (rk : Rep X.K X.w W k x) (rx : RelV x u) (ok : keyOk k = true) (hH : H a = some (dicO a es ep)) (kv : RepKV X.K X.w W kvs es.toList) (nd : (kvs.map fun p => keyD p.1).Nodup)
    (h : ∀ t, Q (kvs.any (kIs k)) { s with toks := t }) : wpAny (model X.prog X.w) X.A (contains (.ref a) u) Q E s := by
  obtain ⟨kk, k1, k2⟩ := keyOk_iff ok
  obtain ⟨⟨h1, h2, h3⟩, _⟩ := I.hok a _ hH
  obtain ⟨ks, ek, N⟩ := RepKV.ents I sm kv nd
  refine dcontains N (by omega) h1 h3 (Rep.key I sm rk rx k1) k2 fun t => ?_
  have e : decide (kk ∈ ks) = kvs.any (kIs k) := by
    by_cases hm : kk ∈ ks
    · obtain ⟨j, hj⟩ := List.getElem?_of_mem hm
      obtain ⟨p, _, _, _, p4⟩ := hit_some ek nd k1 (show Hit ks kk (some j) from hj)
      rw [decide_eq_true hm, p4]
    · rw [decide_eq_false hm, (hit_none ek k1 (show Hit ks kk none from hm)).2]
  rw [e]
  exact h t
theorem op_inDic (hu : X.A.units + 64 < cLine) : OpR X (compareOp .In) (rInDic X false) := by
  intro pins s σ H x y u v Q I rx ry h
  obtain ⟨W, a, es, ep, k, kvs, rfl, sm, rk, ok, hH, kv, nd, q⟩ := h
  cases ry
  show wpAny _ _ (contains (.ref a) u >>= fun b => pure (Value.bool b)) _ _ _
  exact wpAny_bind (dic_has hu I sm rk rx ok hH kv nd fun t => wpAny_pure ⟨.bl _, H, I.tok _, rfl, q⟩)
theorem op_ninDic (hu : X.A.units + 64 < cLine) : OpR X (compareOp .NotIn) (rInDic X true) := by
  intro pins s σ H x y u v Q I rx ry h
  obtain ⟨W, a, es, ep, k, kvs, rfl, sm, rk, ok, hH, kv, nd, q⟩ := h
  cases ry
  show wpAny _ _ (contains (.ref a) u >>= fun b => pure (Value.bool (!b))) _ _ _
  exact wpAny_bind (dic_has hu I sm rk rx ok hH kv nd fun t => wpAny_pure ⟨.bl _, H, I.tok _, rfl, q⟩)
def inB2 (x y : D) : Bool := match y with
  | .dict kvs => kvs.any (kIs x)
  | _ => inB x y
def inOk2 (x y : D) : Bool := match y with
  | .dict _ => keyOk x
  | _ => inOk x y
def inD2 (x y : D) : Option D := if inOk2 x y = true then some (.bool (inB2 x y)) else none
def ninD2 (x y : D) : Option D := if inOk2 x y = true then some (.bool (!inB2 x y)) else none
theorem op_inD2 (hu : X.A.units + 64 < cLine) : OpR X (compareOp .In) (tV2 X.K X.w inD2) := by
  refine OpR.wk (OpR.or (op_inD' hu) (op_inDic hu)) ?_
  rintro v u H Q ⟨W, x, y, s, r1, r2, h⟩
  cases y with
  | dict kvs =>
    simp only [Rep] at r2
    obtain ⟨a, es, ep, rfl, q, l, nd⟩ := r2
    unfold inD2 at h
    split at h
    · rename_i c
      exact .inr ⟨W, a, es, ep, x, kvs, rfl, s, r1, c, s _ _ q, l, nd, h.flat s rfl⟩
    · exact h.elim
  | _ => exact .inl ⟨W, x, _, s, r1, r2, h⟩
theorem op_ninD2 (hu : X.A.units + 64 < cLine) : OpR X (compareOp .NotIn) (tV2 X.K X.w ninD2) := by
  refine OpR.wk (OpR.or (op_ninD' hu) (op_ninDic hu)) ?_
  rintro v u H Q ⟨W, x, y, s, r1, r2, h⟩
  cases y with
  | dict kvs =>
    simp only [Rep] at r2
    obtain ⟨a, es, ep, rfl, q, l, nd⟩ := r2
    unfold ninD2 at h
    split at h
    · rename_i c
      exact .inr ⟨W, a, es, ep, x, kvs, rfl, s, r1, c, s _ _ q, l, nd, h.flat s rfl⟩
    · exact h.elim
  | _ => exact .inl ⟨W, x, _, s, r1, r2, h⟩
end

/-! ### reads that leave a container one's own -/
def slotC (env : Ev) (i : Nat) : Option D := match env[i]? with
  | some (.fz c) => some c
  | some (.ow _ c) => some c
  | _ => none
def flatD : D → Bool
  | .bool _ => true
  | .int _ => true
  | _ => false
theorem flatD_rep {K : PySem.W.Frag} {w : World} {W W' : Hp} {d : D} {v : V} (h : flatD d = true) (r : Rep K w W d v) : Rep K w W' d v := by
  cases d <;> first | (cases h; done) | exact r
section
variable {X : Cx} {Wx : WX} {ρ : Nat → Addr} {σ : L2.St} {W H : Hp} {A : List (List Addr)} {env : Ev} {Q : VK} {i : Nat} {c : D}
/-- a world in which the container is frozen, for the while of one operation -/
theorem SR.lend (S : SR X.K X.w ρ W H env σ A) (h : slotC env i = some c) : ∃ v W1, σ[i]? = some (some v) ∧ Same W W1 ∧ Same W1 H ∧ Rep X.K X.w W1 c v := by
  unfold slotC at h
  cases e : env[i]? with
  | none => rw [e] at h; cases h
  | some sl =>
    rw [e] at h
    obtain ⟨v, l, h1, h2, h3⟩ := S.at e
    cases sl with
    | no => cases h
    | sc ns => cases h
    | fz d =>
      cases h
      obtain ⟨_, x, rfl, r⟩ := h3
      exact ⟨x, W, h1, Same.refl _, S.sub, r⟩
    | ow t d =>
      cases h
      obtain ⟨p, rfl, rfl, q3, q4, _⟩ := h3
      obtain ⟨o, ho, r, sb⟩ := q4.lay S.sub q3
      exact ⟨.ref p, _, h1, fun b u q => by rw [upd_ne (ne_of_none q q3)]; exact q, sb, r⟩
theorem onV_lent {W1 : Hp} {o : Option D} (S : SR X.K X.w ρ W H env σ A) (s1 : Same W W1) (hf : ∀ z, o = some z → flatD z = true) (h : onX X Wx ρ σ W H A (liftO o env) Q) : onV X.K X.w W1 H o Q := by
  cases o with
  | none => exact h
  | some z =>
    intro W' H' v e r
    have E : Ex W H W H' := ⟨Same.refl _, e.keep, (s1.trans e.ext).trans e.sub, fun _ h1 h2 => absurd h2 h1⟩
    exact h W H' A v (S.ex E) (E.fr _) (flatD_rep (hf z rfl) r)
end
def x2B (o : D → D → Option D) (f : XF) (i : Nat) : XF := fun env => (f env).bind fun r => match slotC r.2 i with
  | some c => liftO (o r.1 c) r.2
  | none => .bad
def xLenB (i : Nat) : XF := fun env => match slotC env i with
  | some c => liftO (lenD [c]) env
  | none => .bad
def xIxB (i : Nat) (g : XF) : XF := fun env => match slotC env i with
  | none => .bad
  | some _ => (g env).bind fun r => match slotC r.2 i with
    | some c => liftO (ixD c r.1) r.2
    | none => .bad
theorem inD2_flat (x y z : D) (h : inD2 x y = some z) : flatD z = true := by unfold inD2 at h; split at h <;> cases h; rfl
theorem ninD2_flat (x y z : D) (h : ninD2 x y = some z) : flatD z = true := by unfold ninD2 at h; split at h <;> cases h; rfl
theorem lenD_flat (xs : List D) (z : D) (h : lenD xs = some z) : flatD z = true := by
  unfold lenD at h
  split at h <;> first | (cases h; rfl) | (split at h <;> cases h; rfl) | (cases h; done)
section
variable {X : Cx} {Wx : WX} {i : Nat} {x : Str} {a b : Expr} {f g : XF} {p pos p2 : Pos} {op : CmpOp} {o : D → D → Option D}
theorem x2B_read {σ : L2.St} {H : Hp} {Q : VK} (hf : ∀ x y z, o x y = some z → flatD z = true) (h : tX X Wx (x2B o f i) σ H Q) : tOp (tV2 X.K X.w o) (tX X Wx f) (tVar i) σ H Q := by
  obtain ⟨ρ, W, env, A, S, h⟩ := h
  refine tG_then S h fun d W1 H1 env1 A1 v S1 F1 r1 h1 => ?_
  simp only at h1
  cases e : slotC env1 i with
  | none => rw [e] at h1; exact h1.elim
  | some c =>
    rw [e] at h1
    obtain ⟨u, W2, e1, s2, s3, r2⟩ := S1.lend e
    exact ⟨u, e1, W2, d, c, s3, Rep.mono s2 _ _ r1, r2, onV_lent S1 s2 (hf d c) h1⟩
theorem ex_cmpB (hf : ∀ x y z, o x y = some z → flatD z = true) (ho : OpR X (compareOp op) (tV2 X.K X.w o)) (ha : EX X Wx a f) (h : PE X (.Name x p) (tVar i)) (hm : behindInMarks op (.Name x p) = false := by first | exact nomark _ | rfl) : EX X Wx (.Compare a [op] [.Name x p] pos) (x2B o f i) :=
  PE.wk (pe_cmpR ho ha h hm) fun σ H Q h => x2B_read hf h
theorem et_cmpB (hf : ∀ x y z, o x y = some z → flatD z = true) (ho : OpR X (compareOp op) (tV2 X.K X.w o)) (ha : EX X Wx a f) (h : PE X (.Name x p) (tVar i)) (hm : behindInMarks op (.Name x p) = false := by first | exact nomark _ | rfl) : ET X Wx (.Compare a [op] [.Name x p] pos) (tst (x2B o f i)) :=
  PT.wk (pt_cmpR ho ha h hm) fun σ H Q h => x2B_read hf (tst_read h)
theorem ex_lenB (h : PE X (.Name x p) (tVar i)) (hg : Gl X "len") (hm : X.mg "len" = none) : EX X Wx (.Call (.Name "len" p2) [.Name x p] [] pos) (xLenB i) := by
  refine PE.wk (pe_callB cr_lenD hg hm PySem.boot_len (pa_cons h pa_nil)) ?_
  rintro σ H Q ⟨ρ, W, env, A, S, h⟩
  unfold xLenB at h
  cases e : slotC env i with
  | none => rw [e] at h; exact h.elim
  | some c =>
    rw [e] at h
    obtain ⟨u, W2, e1, s2, s3, r2⟩ := S.lend e
    exact ⟨u, e1, W2, [c], s3, RepL.cons r2 RepL.nil, onV_lent S s2 (lenD_flat _) h⟩
/-- own[k]: what is in it is frozen -/
theorem ix_own (hu : X.A.units + 64 < cLine) : IxR X (fun x y H Q => ∃ W k c z, Same W H ∧ Rep X.K X.w W k y ∧ (Rep X.K X.w W c x ∨ ∃ p, x = .ref p ∧ Own X.K X.w W H c p) ∧ ixD c k = some z ∧ ∀ W' H' v, Ex W H W' H' → Rep X.K X.w W' z v → Q v H') := by
  intro value slice pins s σ H x y v u Q I rx ry h hs
  refine ((ix_dD hu).or (ix_list.or (ix_dic hu))) value slice pins s σ H x y v u Q I rx ry ?_ hs
  obtain ⟨W, k, c, z, sm, r2, hc, e, q⟩ := h
  rcases hc with r1 | ⟨p, rfl, ow⟩
  · exact .inl ⟨W, c, k, sm, r1, r2, by rw [e]; exact q⟩
  · cases c with
    | list ds =>
      obtain ⟨vs, h1, h2⟩ := ow
      cases k with
      | int j =>
        simp only [Rep] at r2
        subst r2
        obtain ⟨w1, e1, r⟩ := h2.atI' (show atI ds j = some z from e)
        exact .inr (.inl ⟨p, vs, j, w1, rfl, rfl, .of h1, e1, q W H _ (Ex.refl sm) r⟩)
      | _ => cases e
    | dict kvs =>
      obtain ⟨es, ep, h1, h2, h3⟩ := ow
      have e' : (if keyOk k = true then dAt kvs k else none) = some z := by cases k <;> exact e
      split at e'
      · rename_i c
        exact .inr (.inr ⟨W, p, es, ep, k, kvs, rfl, sm, r2, c, h1, h2, h3, z, e', fun v r => q W H v (Ex.refl sm) r⟩)
      · cases e'
    | _ => exact ow.elim
theorem ex_ixB (hu : X.A.units + 64 < cLine) (h : PE X (.Name x p) (tVar i)) (hb : EX X Wx b g) (hs : PlainIx b) : EX X Wx (.Subscript (.Name x p) b pos) (xIxB i g) := by
  refine PE.wk (pe_ix (ix_own hu) h hb hs) ?_
  rintro σ H Q ⟨ρ, W, env, A, S, h⟩
  unfold xIxB at h
  cases e : slotC env i with
  | none => rw [e] at h; exact h.elim
  | some c0 =>
    rw [e] at h
    obtain ⟨v0, _, e0, _⟩ := S.lend e
    refine ⟨v0, e0, tG_then S h fun d W1 H1 env1 A1 u S1 F1 r1 h1 => ?_⟩
    simp only at h1
    cases e' : slotC env1 i with
    | none => rw [e'] at h1; exact h1.elim
    | some c =>
      rw [e'] at h1
      dsimp only at h1
      cases ez : ixD c d with
      | none => rw [ez] at h1; exact h1.elim
      | some z =>
        rw [ez] at h1
        refine ⟨W1, d, c, z, S1.sub, r1, ?_, ez, fun W' H' v e r => h1 W' H' A1 v (S1.ex e) (e.fr _) r⟩
        unfold slotC at e'
        cases es : env1[i]? with
        | none => rw [es] at e'; cases e'
        | some sl =>
          rw [es] at e'
          obtain ⟨v, l, g1, g2, g3⟩ := S1.at es
          rw [e0] at g1
          cases g1
          cases sl with
          | no => cases e'
          | sc ns => cases e'
          | fz d' =>
            cases e'
            obtain ⟨_, y, ey, r⟩ := g3
            cases ey
            exact .inl r
          | ow t d' =>
            cases e'
            obtain ⟨p', _, ey, _, q4, _⟩ := g3
            cases ey
            exact .inr ⟨p', rfl, q4⟩
end
end DP
set_option Elab.async false
set_option linter.all false
set_option maxRecDepth 100000
/-! DP, part 39: d[k] = v, d one's own; {}, {k: v, ..}. -/
namespace DP
open PySem PySem.Spec PyProof.Rows L2

/-! ### d[k] = v -/
def tSetRaw (X : Cx) (tv td tk : TE) : TS := fun D σ H => tv σ H fun v H1 => td σ H1 fun o H2 => tk σ H2 fun k H3 => ∃ W a es ep dk dv kvs, o = .ref a ∧ Same W H3 ∧ Rep X.K X.w W dk k ∧ keyOk dk = true ∧ Rep X.K X.w W dv v ∧ H3 a = some (dicO a es ep) ∧ RepKV X.K X.w W kvs es.toList ∧
  (kvs.map fun p => keyD p.1).Nodup ∧ kvs.length < sizeLine ∧ ∀ es' ep', RepKV X.K X.w W (dPut kvs dk dv) es'.toList → ((dPut kvs dk dv).map fun p => keyD p.1).Nodup → D.nx σ (upd H3 a (dicO a es' ep'))
section
variable {X : Cx} {Wx : WX} {o i value : Expr} {pos' pos : Pos} {tv td tk : TE}
theorem ps_setRaw (hu : X.A.units + 64 < cLine) (ho : PE X o td) (hi : PE X i tk) (hv : PE X value tv) (hs : swapsWith value (some (.Subscript o i pos')) pos.line X.env = pure false) : PS X (.Assign [.Subscript o i pos'] value pos) (tSetRaw X tv td tk) := by
  refine ⟨fun pins s σ H D I h => ?_⟩
  refine wpAny_Assign_Subscript (thn (hv.run pins s σ H _ I h) fun r s1 ⟨v, H1, I1, rv, q1⟩ => thn (ho.run pins s1 σ H1 _ I1 q1) fun u s2 ⟨x, H2, I2, rx, q2⟩ => thn (hi.run pins s2 σ H2 _ I2 q2) fun iv s3 ⟨y, H3, I3, ry, W, a, es, ep, dk, dv, kvs, ex, sm, rk, ok, rdv, hH, kv, nd, hlt, q⟩ => ?_) hs
  subst ex
  obtain rfl : u = Value.ref a := rx
  obtain ⟨kk, k1, k2⟩ := keyOk_iff ok
  obtain ⟨⟨h1, h2, h3⟩, _⟩ := I3.hok a _ hH
  obtain ⟨ks, ek, N⟩ := RepKV.ents I3 sm kv nd
  refine dset N (by omega) h3 h2 (Rep.key I3 sm rk ry k1) k2 fun h' es' ep' r' t hhit e1 e2 e3 => ?_
  have kv' : RepKV X.K X.w W (dPut kvs dk dv) es'.toList := by
    rw [e3]
    exact kv.put nd ek k1 k2 hhit ry rk rv rdv
  have hz' : es'.size ≤ sizeLine := by
    have l1 := kv'.len
    have l2 := dPut_len kvs dk dv
    have l3 : es'.toList.length = es'.size := Array.length_toList
    omega
  exact ⟨σ, _, d_write (t' := t) I3 (by rw [hH]; exact True.intro) e2 ⟨_, e1⟩ (dicO_new h1 hz' e1), q es' ep' kv' (dPut_keys nd)⟩
def sSetK (i : Nat) (fv fk : XF) : SF := fun env => (fv env).bind fun v => match v.2[i]? with
  | some (.ow _ (.dict _)) => (fk v.2).bind fun k => match k.2[i]? with
    | some (.ow t (.dict kvs)) => if keyOk k.1 = true ∧ kvs.length < sizeLine then .ok (.nx, k.2.set i (.ow t (.dict (dPut kvs k.1 v.1)))) else .bad
    | _ => .bad
  | _ => .bad
theorem es_setK {j : Nat} {x : Str} {p : Pos} {fv fk : XF} (hu : X.A.units + 64 < cLine) (hx : PE X (.Name x p) (tVar j)) (hi : EX X Wx i fk) (hv : EX X Wx value fv) (hs : swapsWith value (some (.Subscript (.Name x p) i pos')) pos.line X.env = pure false := by rfl) :
    ES X Wx (.Assign [.Subscript (.Name x p) i pos'] value pos) (sSetK j fv fk) := by
  refine PS.wk (ps_setRaw hu hx hi hv hs) ?_
  rintro D σ H ⟨ρ, W, env, A, S, h⟩
  refine tS_then S h fun d W1 H1 env1 A1 v S1 F1 r1 h1 => ?_
  simp only at h1
  cases e : env1[j]? with
  | none => rw [e] at h1; exact h1.elim
  | some sl =>
    rw [e] at h1
    obtain ⟨v0, l0, g1, g2, g3⟩ := S1.at e
    cases sl with
    | ow t0 c0 =>
      cases c0 with
      | dict kvs0 =>
        obtain ⟨p0, rfl, rfl, _⟩ := g3
        refine ⟨.ref p0, g1, ?_⟩
        dsimp only at h1
        refine tS_then S1 h1 fun k W2 H2 env2 A2 u S2 F2 r2 h2 => ?_
        simp only at h2
        cases e' : env2[j]? with
        | none => rw [e'] at h2; exact h2.elim
        | some sl =>
          rw [e'] at h2
          obtain ⟨v0, l0, f1, f2, f3⟩ := S2.at e'
          rw [g1] at f1
          cases f1
          cases sl with
          | ow t c =>
            cases c with
            | dict kvs =>
              obtain ⟨p', rfl, ep', q3, ⟨es, epo, q4, q5, q6⟩, q7⟩ := f3
              cases ep'
              dsimp only at h2
              split at h2
              · rename_i c
                refine ⟨W2, p0, es, epo, k, d, kvs, rfl, S2.sub, r2, c.1, Rep.mono F2.ext _ _ r1, q4, q5, q6, c.2, fun es' ep' kv' nd' => ?_⟩
                obtain ⟨S3, F3⟩ := S2.mut (o := dicO p0 es' ep') (c' := .dict (dPut kvs k d)) e' g1 ⟨es', ep', upd_same, kv', nd'⟩
                exact h2 W2 _ A2 σ S3 F3
              · exact h2.elim
            | _ => exact h2.elim
          | _ => exact h2.elim
      | _ => exact h1.elim
    | _ => exact h1.elim
end

/-! ### displays -/
abbrev KF := Ev → Out (List (D × D) × Ev)
def kNil : KF := fun env => .ok ([], env)
def kCons (fk fv : XF) (r : KF) : KF := fun env => (fk env).bind fun k => (fv k.2).bind fun v => (r v.2).bind fun q => .ok ((k.1, v.1) :: q.1, q.2)
section
variable (K : PySem.W.Frag) (w : World)
def RepP (W : Hp) (ds : List (D × D)) (ps : List (V × V)) : Prop := RepL K w W (ds.map (·.1)) (ps.map (·.1)) ∧ RepL K w W (ds.map (·.2)) (ps.map (·.2))
end
structure EK (X : Cx) (Wx : WX) (pos : Pos) (keys : List (Option Expr)) (values : List Expr) (f : KF) : Prop where
  run : ∀ (pins : List (Addr × Obj)) (s : Shared) (σ : L2.St) (H : Hp) (Q : List (V × V) → Hp → Prop), Inv X pins σ H s → tG X.K X.w X.mg Wx (RepP X.K X.w) f σ H Q →
    wpAny (model X.prog X.w) X.A (evalPairs (pairTrees keys values X.env pos)) (fun vs s' => ∃ ps H', Inv X pins σ H' s' ∧ VV ps vs ∧ Q ps H') X.xe s
  all : keys.all (·.isSome) = true
  len : keys.length = values.length
section
variable {X : Cx} {Wx : WX} {pos : Pos} {k v : Expr} {ks : List (Option Expr)} {vs : List Expr} {fk fv : XF} {r : KF}
theorem ek_nil : EK X Wx pos [] [] kNil := ⟨fun pins s σ H Q I h => by
  obtain ⟨ρ, W, env, A, S, h⟩ := h
  exact pairTrees_nil_walk ⟨[], H, I, .nil, h W H A [] S (Fr.refl _ _ _) ⟨RepL.nil, RepL.nil⟩⟩, rfl, rfl⟩
theorem ek_cons (hk : EX X Wx k fk) (hv : EX X Wx v fv) (hr : EK X Wx pos ks vs r) : EK X Wx pos (some k :: ks) (v :: vs) (kCons fk fv r) := ⟨fun pins s σ H Q I h => by
  obtain ⟨ρ, W, env, A, S, h⟩ := h
  have h0 : tX X Wx fk σ H fun x H1 => tX X Wx fv σ H1 fun y H2 => tG X.K X.w X.mg Wx (RepP X.K X.w) r σ H2 fun ps H3 => Q ((x, y) :: ps) H3 := by
    refine tG_then S h fun d W1 H1 env1 A1 x S1 F1 r1 h1 => ?_
    refine tG_then S1 h1 fun d2 W2 H2 env2 A2 y S2 F2 r2 h2 => ?_
    refine tG_then S2 h2 fun ds W3 H3 env3 A3 ps S3 F3 r3 h3 => ?_
    refine h3 W3 H3 A3 _ S3 (Fr.refl _ _ _) ⟨?_, ?_⟩
    · exact RepL.cons (Rep.mono (F2.ext.trans F3.ext) _ _ r1) r3.1
    · exact RepL.cons (Rep.mono F3.ext _ _ r2) r3.2
  exact pairTrees_cons_walk (thn (hk.run pins s σ H _ I h0) fun u s1 ⟨x, H1, I1, rx, q1⟩ => thn (hv.run pins s1 σ H1 _ I1 q1) fun w2 s2 ⟨y, H2, I2, ry, q2⟩ =>
    thn (hr.run pins s2 σ H2 _ I2 q2) fun ws s3 ⟨ps, H3, I3, rel, q3⟩ => ⟨(x, y) :: ps, H3, I3, .cons ⟨rx, ry⟩ rel, q3⟩), by simp [hr.all], by simp [hr.len]⟩
end
def pairsOk (ps : List (D × D)) : Bool := ps.all fun p => keyOk p.1
def xDict (g : KF) : XF := fun env => (g env).bind fun r => if pairsOk r.1 = true then .ok (.dict (dMerge [] r.1), r.2) else .bad
section
variable {P : Program} {w : World} {A : Around} {E : Value → Shared → Prop} {K : PySem.W.Frag} {W : Hp}
theorem stores {a : Addr} (hu : A.units + 16 < cLine) {h0 : Heap} (nest : ∀ d v u k, Rep K w W d v → RelV v u → keyD d = some k → NestedIs h0 k u) :
    ∀ (ds : List (D × D)) (ps : List (V × V)) (vs : List (Value × Value)) (acc : List (D × D)) (es : Array DictEntry) (ep : Nat) (s : Shared) (Q : PUnit → Shared → Prop), RepP K w W ds ps → VV ps vs → pairsOk ds = true → Heap.SameBut a h0 s.heap → (∀ o vs n, h0.get? a = some o → o.data = .seq vs n → False) →
      s.heap.get? a = some (dobj es ep) → RepKV K w W acc es.toList → (acc.map fun p => keyD p.1).Nodup → acc.length + ds.length ≤ sizeLine →
      (∀ h' tk es' ep', Heap.SameBut a h0 h' → h'.get? a = some (dobj es' ep') → RepKV K w W (dMerge acc ds) es'.toList → ((dMerge acc ds).map fun p => keyD p.1).Nodup → Q PUnit.unit { s with heap := h', toks := tk }) →
      wpAny (model P w) A (forIn vs PUnit.unit fun (x : Value × Value) (_ : PUnit) => (do dictSet a x.1 x.2; pure (ForInStep.yield PUnit.unit) : Sem (ForInStep PUnit))) Q E s
  | [], ps, vs, acc, es, ep, s, Q, rp, rv, ok, hs, hns, hS, kv, nd, hz, hQ => by
    have e1 : ps = [] := by
      have := rp.1
      simp only [List.map_nil, RepL, List.map_eq_nil_iff] at this
      exact this
    subst e1
    cases rv
    rw [List.forIn_nil]
    exact wpAny_pure (hQ s.heap s.toks es ep hs hS kv nd)
  | (k, v) :: ds, ps, vs, acc, es, ep, s, Q, rp, rv, ok, hs, hns, hS, kv, nd, hz, hQ => by
    obtain ⟨rp1, rp2⟩ := rp
    cases ps with
    | nil => simp [RepL] at rp1
    | cons p ps =>
      obtain ⟨x, y⟩ := p
      simp only [List.map_cons, RepL] at rp1 rp2
      obtain ⟨_, _, e1, a1, a2⟩ := rp1
      obtain ⟨_, _, e2, b1, b2⟩ := rp2
      cases e1
      cases e2
      cases rv with
      | @cons _ q _ vs' h t =>
        obtain ⟨u, z⟩ := q
        obtain ⟨ru, rz⟩ := h
        simp only [pairsOk, List.all_cons, Bool.and_eq_true] at ok
        obtain ⟨kk, k1, k2⟩ := keyOk_iff ok.1
        have nest1 : ∀ d v u k, Rep K w W d v → RelV v u → keyD d = some k → NestedIs s.heap k u := fun d v u k a c e => NestedIs.at (fun c o vs n e' hd => (hs.2 c (fun z => by subst z; exact hns _ _ _ e' hd)).trans e') _ _ (nest d v u k a c e)
        obtain ⟨ks, ek, N⟩ := RepKV.ents' nest1 kv nd
        have l1 := kv.len
        have l3 : es.toList.length = es.size := Array.length_toList
        simp only [List.length_cons] at hz
        rw [List.forIn_cons]
        refine wpAny_bind (wpAny_bind (dset0 N (by omega) hS (by omega) (nest1 _ _ _ _ a1 ru k1) k2 fun h2 es2 ep2 r t2 hhit e1 e2 e3 => wpAny_pure ?_))
        have kv2 : RepKV K w W (dPut acc k v) es2.toList := by
          rw [e3]
          exact kv.put nd ek k1 k2 hhit ru a1 rz b1
        have l2 := dPut_len acc k v
        exact stores hu nest ds ps vs' (dPut acc k v) es2 ep2 _ Q ⟨a2, b2⟩ t ok.2 (hs.trans e2) hns e1 kv2 (dPut_keys nd) (by omega) fun h' tk es' ep' g1 g2 g3 g4 => hQ h' tk es' ep' g1 g2 g3 g4
end
section
variable {X : Cx} {Wx : WX} {pos : Pos} {keys : List (Option Expr)} {values : List Expr} {g : KF}
theorem en_dict0 : EN X Wx (.Dict [] [] pos) (xConst (.dict [])) := by
  refine ⟨fun pins s σ H Q I h => ?_⟩
  obtain ⟨ρ, W, env, A, S, h⟩ := h
  have hn := I.hok.fresh (Nat.le_refl s.heap.objs.size)
  have hs : (s.heap.objs.size == sysModules) = false := beq_eq_false_iff_ne.mpr (Nat.ne_of_gt I.big)
  have E := Ex.junk (o := dicO s.heap.objs.size #[] 0) S.sub hn
  refine wpAny_Dict_empty ⟨.ref s.heap.objs.size, _, I.laid (t' := s.toks) (fun b o e => Heap.get?_push_of_some _ e) (Nat.le_refl _) (dicO_new hs (Nat.zero_le _) (Heap.get?_push_size _ rfl)), rfl, ?_⟩
  refine h W _ A _ (S.ex E) (E.fr _) (S.sub.free hn) ⟨#[], 0, upd_same, by simp [RepKV], by simp⟩ (fun hp => ?_) (.inr hn)
  obtain ⟨_, u, hu⟩ := S.own hp
  rw [hn] at hu; cases hu
theorem en_dict (hu : X.A.units + 64 < cLine) (hk : EK X Wx pos keys values g) (h0 : keys ≠ [] := by simp) (h15 : keys.length ≤ 15 := by decide) : EN X Wx (.Dict keys values pos) (xDict g) := by
  refine ⟨fun pins s σ H Q I h => ?_⟩
  obtain ⟨ρ, W, env, A, S, h⟩ := h
  have hn := I.hok.fresh (Nat.le_refl s.heap.objs.size)
  have hs : (s.heap.objs.size == sysModules) = false := beq_eq_false_iff_ne.mpr (Nat.ne_of_gt I.big)
  have E := Ex.junk (o := dicO s.heap.objs.size #[] 0) S.sub hn
  have I1 : Inv X pins σ (upd H s.heap.objs.size (dicO s.heap.objs.size #[] 0)) { s with heap := s.heap.push { cls := .type "dict", data := .dict #[] } } := I.laid (t' := s.toks) (fun b o e => Heap.get?_push_of_some _ e) (Nat.le_refl _) (dicO_new hs (Nat.zero_le _) (Heap.get?_push_size _ rfl))
  generalize hp : s.heap.objs.size = p at *
  have S1 := S.ex E
  have nW : W p = none := S.sub.free hn
  have nO : ¬ ownd A p := fun z => by
    obtain ⟨_, u, hu⟩ := S.own z
    rw [hn] at hu; cases hu
  unfold xDict at h
  have key : tG X.K X.w X.mg Wx (RepP X.K X.w) g σ (upd H p (dicO p #[] 0)) fun ps H2 => H2 p = some (dicO p #[] 0) ∧ ∃ W2 ds, Same W2 H2 ∧ RepP X.K X.w W2 ds ps ∧ pairsOk ds = true ∧ ∀ es' ep', RepKV X.K X.w W2 (dMerge [] ds) es'.toList → ((dMerge [] ds).map fun q => keyD q.1).Nodup → Q (.ref p) (upd H2 p (dicO p es' ep')) := by
    refine ⟨ρ, W, env, A, S1, ?_⟩
    cases eg : g env with
    | bad => rw [eg] at h; exact h.elim
    | exc c d e' =>
      rw [eg] at h
      exact fun C W' H' A' dx v g S' F' x r' => h C W' H' A' dx v g S' ((E.fr _).trans F') x r'
    | ok r =>
      obtain ⟨ds, env2⟩ := r
      rw [eg] at h
      intro W2 H2 A2 ps S2 F2 r2
      have e2 : H2 p = some (dicO p #[] 0) := F2.keep p _ upd_same nO
      have n2 : W2 p = none := by
        cases z : W2 p with
        | none => rfl
        | some u =>
          rcases F2.new p (by rw [z]; exact fun z => nomatch z) nW with q | q
          · exact absurd q nO
          · rw [upd_same] at q; cases q
      have o2 : ¬ ownd A2 p := fun z => by
        rcases F2.own p z with q | q
        · exact nO q
        · rw [upd_same] at q; cases q
      have back : ∀ b, upd H p (dicO p #[] 0) b = none → H b = none := fun b q => by
        by_cases hb : b = p
        · rw [hb]; exact hn
        · rwa [upd_ne hb] at q
      refine ⟨e2, W2, ds, S2.sub, r2, ?_⟩
      rw [Out.bind_ok] at h
      dsimp only at h
      split at h
      · rename_i c
        refine ⟨c, fun es' ep' kv' nd' => ?_⟩
        have sub' : Same W2 (upd H2 p (dicO p es' ep')) := fun b u q => by rw [upd_ne (ne_of_none q n2)]; exact S2.sub b u q
        refine h W2 _ A2 p (S2.keep (Same.refl _) sub' fun b hb => ⟨upd_ne fun z => o2 (z ▸ hb), (S2.own hb).1⟩) ⟨F2.ext, fun b u q nb => ?_, fun b q1 q2 => ?_, fun b q => ?_⟩ n2 ⟨es', ep', upd_same, kv', nd'⟩ o2 (.inr hn)
        · have hb : b ≠ p := ne_of_none q hn
          rw [upd_ne hb]
          exact F2.keep b u (by rw [upd_ne hb]; exact q) nb
        · exact (F2.new b q1 q2).imp id (back b)
        · exact (F2.own b q).imp id (back b)
      · exact h.elim
  have hl := pairTrees_length keys values X.env pos hk.all hk.len
  rw [arm_eval_Dict, zip_pairTrees keys values X.env pos hk.all hk.len, dictDisplay_pairs _ (by
    intro e
    rw [e] at hl
    exact h0 (List.eq_nil_of_length_eq_zero hl.symm)) (by omega)]
  refine wpAny_bind (wpAny_standAt (wpAny_bind ?_))
  unfold subDict
  refine wpAny_bind (wpAny_alloc ?_)
  refine wpAny_bind (wpAny_holding ?_)
  rw [if_pos (by omega)]
  refine wpAny_bind (wpAny_mono (wpAny_evalPairs_len (hk.run pins _ σ _ _ I1 key)) (fun vs s2 h₁ => ?_) fun _ _ e => e)
  obtain ⟨hvl, ps, H2, I2, rel, e2, W2, ds, sm2, rp, ok, q⟩ := h₁
  obtain ⟨⟨d1, d2, d3⟩, _⟩ := I2.hok p _ e2
  have dl : ds.length = vs.length := by
    have h1 := rp.1.len
    have h2 := Paired.length rel
    simp only [List.length_map] at h1
    omega
  refine wpAny_holding ?_
  refine wpAny_bind ?_
  rw [hp]
  refine stores (K := X.K) (W := W2) (h0 := s2.heap) (by omega) (fun d v u k r1 r2 e => Rep.key I2 sm2 r1 r2 e) ds ps vs [] #[] 0 s2 _ rp rel ok (Heap.SameBut.refl _ _) (fun o vs n e hd => by rw [d3] at e; cases e; cases hd) d3 (by simp [RepKV]) (by simp) (by rw [sizeLine_eq, List.length_nil]; omega) fun h' tk es' ep' g1 g2 g3 g4 => wpAny_pure (wpAny_pure ?_)
  have hz' : es'.size ≤ sizeLine := by
    have l1 := g3.len
    have l2 := dMerge_len ds []
    have l3 : es'.toList.length = es'.size := Array.length_toList
    rw [List.length_nil] at l2
    rw [sizeLine_eq]
    omega
  exact wpAny_pure ⟨.ref p, _, d_write (t' := tk) I2 (by rw [e2]; exact True.intro) g1 ⟨_, g2⟩ (dicO_new d1 hz' g2), rfl, q es' ep' g3 g4⟩
end
end DP
set_option Elab.async false
set_option linter.all false
set_option maxRecDepth 100000
/-! DP, part 40: dicts with int keys compared; repr of data with dicts. -/
namespace DP
open PySem PySem.Spec PyProof.Rows L2

def intKV : List (D × D) → Option (List (Int × D))
  | [] => some []
  | (.int i, d) :: r => (intKV r).map fun l => (i, d) :: l
  | _ => none
def lookI (m : List (Int × D)) (k : Int) : Option D := (m.find? fun p => decide (p.1 = k)).map (·.2)
def eqAt (ys : List (Int × D)) (p : Int × D) : Bool := match lookI ys p.1 with
  | some e => p.2.eqv e
  | none => false
def eqKV (xs ys : List (Int × D)) : Bool := xs.length == ys.length && xs.all (eqAt ys)
def plainV (xs : List (Int × D)) : Bool := xs.all fun p => p.2.plain && decide (p.2.depth ≤ 60)
def eqKVO (a b : List (D × D)) : Option Bool := match intKV a, intKV b with
  | some xs, some ys => if (plainV xs && plainV ys) = true then some (eqKV xs ys) else none
  | _, _ => none
def eqD2 (x y : D) : Option D := match x, y with
  | .dict a, .dict b => (eqKVO a b).map .bool
  | _, _ => eqD x y
def neD2 (x y : D) : Option D := match x, y with
  | .dict a, .dict b => (eqKVO a b).map fun q => .bool (!q)
  | _, _ => neD x y
section
variable {P : Program} {w : World} {K : PySem.W.Frag} {W : Hp}
/-- the dict's pairs, and the data of each -/
inductive KA (K : PySem.W.Frag) (w : World) (W : Hp) : List (Int × D) → List (Int × Value) → Prop
  | nil : KA K w W [] []
  | cons {k : Int} {d : D} {u : Value} {v : V} {xs : List (Int × D)} {ka : List (Int × Value)} : RelV v u → Rep K w W d v → KA K w W xs ka → KA K w W ((k, d) :: xs) ((k, u) :: ka)
theorem KA.keys {xs : List (Int × D)} {ka : List (Int × Value)} (h : KA K w W xs ka) : ka.map (·.1) = xs.map (·.1) := by
  induction h with
  | nil => rfl
  | cons _ _ _ ih => simp [ih]
theorem KA.len {xs : List (Int × D)} {ka : List (Int × Value)} (h : KA K w W xs ka) : ka.length = xs.length := by
  have := congrArg List.length h.keys
  simpa using this
theorem KA.at {xs : List (Int × D)} {ka : List (Int × Value)} (h : KA K w W xs ka) (k : Int) : (lookI xs k = none ∧ valueAt ka k = none) ∨ ∃ d u v, lookI xs k = some d ∧ (k, d) ∈ xs ∧ valueAt ka k = some u ∧ RelV v u ∧ Rep K w W d v := by
  induction h with
  | nil => exact .inl ⟨rfl, rfl⟩
  | @cons k' d u v xs ka r1 r2 _ ih =>
    by_cases e : k' = k
    · subst e
      exact .inr ⟨d, u, v, by simp [lookI], by simp, by simp [valueAt], r1, r2⟩
    · rcases ih with ⟨a, b⟩ | ⟨d', u', v', a, m, b, c⟩
      · exact .inl ⟨by simpa [lookI, e] using a, by simpa [valueAt, e] using b⟩
      · exact .inr ⟨d', u', v', by simpa [lookI, e] using a, List.mem_cons_of_mem _ m, by simpa [valueAt, e] using b, c⟩
theorem intKV_keys : ∀ {kvs : List (D × D)} {xs : List (Int × D)}, intKV kvs = some xs → kvs.map (fun p => keyD p.1) = xs.map fun p => some (NestedKey.num p.1)
  | [], _, e => by cases e; rfl
  | (k, d) :: r, xs, e => by
    cases k with
    | int i =>
      unfold intKV at e
      obtain ⟨l, e1, rfl⟩ := Option.map_eq_some_iff.mp e
      rw [List.map_cons, List.map_cons, intKV_keys e1]
      rfl
    | _ => cases e
theorem ka_of (P : Program) : ∀ {kvs : List (D × D)} {es : List DictEntry} {xs : List (Int × D)}, RepKV K w W kvs es → intKV kvs = some xs →
    ∃ ka, KA K w W xs ka ∧ Pairs (PySem.intKind P w) es ka ∧ ∀ e ∈ es, ∃ k, (PySem.intKind P w).is k e.key = true ∧ e.hash = (PySem.intKind P w).hash k
  | [], _, _, h, e => by
    simp only [RepKV] at h
    subst h
    cases e
    exact ⟨[], .nil, .nil, fun _ h => nomatch h⟩
  | (k, d) :: r, es, xs, h, e => by
    simp only [RepKV] at h
    obtain ⟨en, q, rfl, ⟨kk, a1, a2, a3⟩, ⟨x, b1, b2⟩, ⟨y, c1, c2⟩, h5⟩ := h
    cases k with
    | int i =>
      unfold intKV at e
      obtain ⟨l, e1, rfl⟩ := Option.map_eq_some_iff.mp e
      obtain ⟨ka, f1, f2, f3⟩ := ka_of P h5 e1
      simp only [Rep] at b2
      subst b2
      obtain ⟨t, ek⟩ := b1
      have isK : (PySem.intKind P w).is i en.key = true := by rw [ek]; simp [PySem.intKind, Value.isInt]
      have hk : en.hash = (PySem.intKind P w).hash i := by
        simp only [keyD, Option.some.injEq] at a1
        rw [a3, ← a1]
        rfl
      refine ⟨(i, en.val) :: ka, .cons c1 c2 f1, .cons isK rfl f2, fun e' he' => ?_⟩
      rcases List.mem_cons.mp he' with z | z
      · subst z; exact ⟨i, isK, hk⟩
      · exact f3 e' z
    | _ => cases e
end
section
variable {X : Cx} {pins : List (Addr × Obj)} {σ : L2.St} {s : Shared} {H W : Hp}
theorem dic_ka (I : Inv X pins σ H s) {a : Addr} {es : Array DictEntry} {ep : Nat} {kvs : List (D × D)} {xs : List (Int × D)} (hH : H a = some (dicO a es ep)) (kv : RepKV X.K X.w W kvs es.toList) (nd : (kvs.map fun p => keyD p.1).Nodup) (e : intKV kvs = some xs) :
    (a == sysModules) = false ∧ ∃ ka, s.heap.DictOf (PySem.intKind X.prog X.w) a ka ∧ KA X.K X.w W xs ka := by
  obtain ⟨⟨h1, h2, h3⟩, _⟩ := I.hok a _ hH
  obtain ⟨ka, f1, f2, f3⟩ := ka_of X.prog kv e
  refine ⟨h1, ka, ⟨_, es, ep, h3, ⟨rfl, rfl, rfl⟩, rfl, fun e' he' => f3 e' (by simpa using he'), f2, ?_⟩, f1⟩
  rw [f1.keys]
  rw [intKV_keys e] at nd
  have : xs.map (fun p => some (NestedKey.num p.1)) = (xs.map (·.1)).map fun i => some (NestedKey.num i) := by rw [List.map_map]; rfl
  rw [this] at nd
  exact List.Pairwise.of_map (fun i : Int => some (NestedKey.num i)) (fun a b h z => h (by rw [z])) nd
theorem ka_hits (I : Inv X pins σ H s) (sm : Same W H) {A : Around} (hu : A.units + 61 < cLine) {ys : List (Int × D)} {kb : List (Int × Value)} (hb : KA X.K X.w W ys kb) (pb : plainV ys = true) {xs : List (Int × D)} {ka : List (Int × Value)} (ha : KA X.K X.w W xs ka) (pa : plainV xs = true) :
    PySem.W.KeqHits A s kb ka (xs.all (eqAt ys)) := by
  induction ha with
  | nil => exact .nil
  | @cons k d u v xs ka r1 r2 _ ih =>
    simp only [plainV, List.all_cons, Bool.and_eq_true, decide_eq_true_eq] at pa
    rw [List.all_cons]
    rcases hb.at k with ⟨e1, e2⟩ | ⟨d', u', v', e1, m, e2, e3, e4⟩
    · have : eqAt ys (k, d) = false := by simp [eqAt, e1]
      rw [this, Bool.false_and]
      exact .miss e2
    · have : eqAt ys (k, d) = d.eqv d' := by simp [eqAt, e1]
      rw [this]
      have pd : d'.plain = true ∧ d'.depth ≤ 60 := by
        have := List.all_eq_true.mp pb _ m
        simpa using this
      obtain ⟨as, ra⟩ := Rep.reads I sm d v u r2 r1
      obtain ⟨bs, rb⟩ := Rep.reads I sm d' v' u' e4 e3
      exact .hit e2 (PySem.SeqAt.eqAt_plain d d' A s u u' as bs ra rb pa.1.1 pd.1 (by omega)) (ih pa.2)
def rEqDic (X : Cx) (neg : Bool) : R2 := fun x y H Q => ∃ W a b es ep es' ep' kvs kws r, x = .ref a ∧ y = .ref b ∧ Same W H ∧ H a = some (dicO a es ep) ∧ H b = some (dicO b es' ep') ∧ RepKV X.K X.w W kvs es.toList ∧ (kvs.map fun p => keyD p.1).Nodup ∧ RepKV X.K X.w W kws es'.toList ∧ (kws.map fun p => keyD p.1).Nodup ∧
  eqKVO kvs kws = some r ∧ Q (.bl (if neg then !r else r)) H
theorem op_eqDic (hu : X.A.units + 64 < cLine) : OpR X (compareOp .Eq) (rEqDic X false) := by
  intro pins s σ H x y u v Q I rx ry h
  obtain ⟨W, a, b, es, ep, es', ep', kvs, kws, r, rfl, rfl, sm, ha, hb, kv, nd, kv', nd', e, q⟩ := h
  cases rx
  cases ry
  unfold eqKVO at e
  split at e
  · rename_i xs ys ex ey
    split at e
    · rename_i c
      cases e
      rw [Bool.and_eq_true] at c
      obtain ⟨a1, ka, da, f1⟩ := dic_ka I ha kv nd ex
      obtain ⟨b1, kb, db, f2⟩ := dic_ka I hb kv' nd' ey
      refine PySem.W.keq_eq a1 b1 da db (by omega) (fun _ => ka_hits I sm (by simp only [Around.in1_units]; omega) f2 c.2 f1 c.1) ⟨.bl _, H, I, rfl, ?_⟩
      rw [f1.len, f2.len]
      exact q
    · cases e
  · cases e
theorem op_neDic (hu : X.A.units + 64 < cLine) : OpR X (compareOp .NotEq) (rEqDic X true) := by
  intro pins s σ H x y u v Q I rx ry h
  obtain ⟨W, a, b, es, ep, es', ep', kvs, kws, r, rfl, rfl, sm, ha, hb, kv, nd, kv', nd', e, q⟩ := h
  cases rx
  cases ry
  unfold eqKVO at e
  split at e
  · rename_i xs ys ex ey
    split at e
    · rename_i c
      cases e
      rw [Bool.and_eq_true] at c
      obtain ⟨a1, ka, da, f1⟩ := dic_ka I ha kv nd ex
      obtain ⟨b1, kb, db, f2⟩ := dic_ka I hb kv' nd' ey
      refine PySem.W.keq_ne a1 b1 da db (by omega) (fun _ => ka_hits I sm (by simp only [Around.in1_units]; omega) f2 c.2 f1 c.1) ⟨.bl _, H, I, rfl, ?_⟩
      rw [f1.len, f2.len]
      exact q
    · cases e
  · cases e
theorem op_eqD2 (hu : X.A.units + 64 < cLine) : OpR X (compareOp .Eq) (tV2 X.K X.w eqD2) := by
  refine OpR.wk (OpR.or (op_eqD' hu) (op_eqDic hu)) ?_
  rintro v u H Q ⟨W, x, y, s, r1, r2, h⟩
  unfold eqD2 at h
  split at h
  · rename_i kvs kws
    simp only [Rep] at r1 r2
    obtain ⟨a, es, ep, rfl, q, l, nd⟩ := r1
    obtain ⟨b, es', ep', rfl, q', l', nd'⟩ := r2
    cases e : eqKVO kvs kws with
    | none => rw [e] at h; exact h.elim
    | some r =>
      rw [e] at h
      exact .inr ⟨W, a, b, es, ep, es', ep', kvs, kws, r, rfl, rfl, s, s _ _ q, s _ _ q', l, nd, l', nd', e, h.flat s rfl⟩
  · exact .inl ⟨W, x, y, s, r1, r2, h⟩
theorem op_neD2 (hu : X.A.units + 64 < cLine) : OpR X (compareOp .NotEq) (tV2 X.K X.w neD2) := by
  refine OpR.wk (OpR.or (op_neD' hu) (op_neDic hu)) ?_
  rintro v u H Q ⟨W, x, y, s, r1, r2, h⟩
  unfold neD2 at h
  split at h
  · rename_i kvs kws
    simp only [Rep] at r1 r2
    obtain ⟨a, es, ep, rfl, q, l, nd⟩ := r1
    obtain ⟨b, es', ep', rfl, q', l', nd'⟩ := r2
    cases e : eqKVO kvs kws with
    | none => rw [e] at h; exact h.elim
    | some r =>
      rw [e] at h
      exact .inr ⟨W, a, b, es, ep, es', ep', kvs, kws, r, rfl, rfl, s, s _ _ q, s _ _ q', l, nd, l', nd', e, h.flat s rfl⟩
  · exact .inl ⟨W, x, y, s, r1, r2, h⟩
end
end DP
set_option Elab.async false
set_option linter.all false
set_option maxRecDepth 100000
/-! DP, part 41: repr of data with dicts in them. -/
namespace DP
open PySem PySem.Spec PyProof.Rows L2

section
variable {X : Cx} {pins : List (Addr × Obj)} {σ : L2.St} {s : Shared} {H W : Hp}
mutual
theorem rk_of (I : Inv X pins σ H s) (sm : Same W H) : ∀ (d : D) (v : V) (u : Value), Rep X.K X.w W d v → RelV v u → d.showable = true → d.shown.length ≤ sizeLine → ∃ bs, ReadAtMost s.heap d.depth bs ∧ ReprK X.prog X.w bs s.heap d.depth u d.shown
  | .none, v, u, r, ru, hs, hz => let ⟨_, ra⟩ := Rep.reads I sm _ v u r ru; ReprK.of_reads ra hs (PyData.noDict_hsm (by simp [PyData.hasDict])) hz
  | .bool b, v, u, r, ru, hs, hz => let ⟨_, ra⟩ := Rep.reads I sm _ v u r ru; ReprK.of_reads ra hs (PyData.noDict_hsm (by simp [PyData.hasDict])) hz
  | .int i, v, u, r, ru, hs, hz => let ⟨_, ra⟩ := Rep.reads I sm _ v u r ru; ReprK.of_reads ra hs (PyData.noDict_hsm (by simp [PyData.hasDict])) hz
  | .str x, v, u, r, ru, hs, hz => let ⟨_, ra⟩ := Rep.reads I sm _ v u r ru; ReprK.of_reads ra hs (PyData.noDict_hsm (by simp [PyData.hasDict])) hz
  | .list ds, v, u, r, ru, hs, hz => by
    have hz' : (listText (PyData.shownAll ds)).length ≤ sizeLine := by simpa only [PyData.shown] using hz
    simp only [Rep] at r
    obtain ⟨a, vs, rfl, q, l⟩ := r
    cases ru
    obtain ⟨its, rv, ⟨o, n, e1, e2, _, e3⟩, _⟩ := I.list (xs := vs) (.of (sm _ _ q))
    obtain ⟨bs, hb, hk⟩ := rkA_of I sm ds vs its l rv (by simpa [PyData.showable] using hs) (fun t ht => Nat.le_trans (listText_mem_le ht) hz')
    obtain ⟨as, ra⟩ := RepL.reads I sm ds vs its l rv
    have r : Reads s.heap (.ref a) (.list ds) _ := .list e1 e2 e3 (by simpa using ra)
    have hna : a ∉ bs := not_mem_of_deeper r (by simp only [PyData.depth]; omega) hb
    refine ⟨a :: bs, ReadAtMost.cons r (by simp only [PyData.depth]; omega) hb, ?_⟩
    simp only [PyData.depth, PyData.shown]
    cases its with
    | nil =>
      cases ra
      simp only [PyData.shownAll, listText_nil]
      exact ReprK.listEmpty e1 e2 e3
    | cons x l => exact ReprK.list e1 e2 e3 hna (by simpa using hk.length_eq) (fun i y e => hk.item i y (by simpa using e))
  | .tuple ds, v, u, r, ru, hs, hz => by
    have hz' : (tupleText (PyData.shownAll ds)).length ≤ sizeLine := by simpa only [PyData.shown] using hz
    simp only [Rep] at r
    obtain ⟨a, vs, rfl, q, l⟩ := r
    cases ru
    obtain ⟨its, rv, ⟨o, e1, e2, n, e3⟩, _⟩ := I.tuple (Same.sqt sm q)
    obtain ⟨bs, hb, hk⟩ := rkA_of I sm ds vs its l rv (by simpa [PyData.showable] using hs) (fun t ht => Nat.le_trans (tupleText_mem_le ht) hz')
    obtain ⟨as, ra⟩ := RepL.reads I sm ds vs its l rv
    have r : Reads s.heap (.ref a) (.tuple ds) _ := .tuple e1 e2 e3 (by simpa using ra)
    have hna : a ∉ bs := not_mem_of_deeper r (by simp only [PyData.depth]; omega) hb
    refine ⟨a :: bs, ReadAtMost.cons r (by simp only [PyData.depth]; omega) hb, ?_⟩
    simp only [PyData.depth, PyData.shown]
    exact ReprK.tuple e1 e2 e3 hna (by simpa using hk)
  | .dict kvs, v, u, r, ru, hs, hz => by
    have hz' : (dictText (PyData.shownKv kvs)).length ≤ sizeLine := by simpa only [PyData.shown] using hz
    simp only [Rep] at r
    obtain ⟨a, es, ep, rfl, q, l, _⟩ := r
    cases ru
    obtain ⟨⟨hsys, _, e1⟩, _⟩ := I.hok a _ (sm _ _ q)
    obtain ⟨hs1, hs2⟩ := PyData.showableKv_split kvs (by simpa [PyData.showable] using hs)
    obtain ⟨as, bs, ra, rb⟩ := RepKV.reads I sm kvs es.toList l
    obtain ⟨⟨b1, hb1, k1⟩, b2, hb2, k2⟩ := rkK_of I sm kvs es.toList l hs1 hs2 (fun t ht => let ⟨p, hp, hl⟩ := PyData.shownKv_key_le kvs t ht; Nat.le_trans hl (Nat.le_trans (dictText_mem_le hp) hz')) (fun t ht => let ⟨p, hp, hl⟩ := PyData.shownKv_val_le kvs t ht; Nat.le_trans hl (Nat.le_trans (dictText_mem_le hp) hz'))
    have r : Reads s.heap (.ref a) (.dict kvs) _ := .dict e1 rfl rfl ra rb
    have hb : ReadAtMost s.heap (PyData.depthKv kvs) (b1 ++ b2) := (hb1.mono (PyData.depthAll_keys_le kvs)).append (hb2.mono (PyData.depthAll_vals_le kvs))
    have hna : a ∉ b1 ++ b2 := not_mem_of_deeper r (by simp only [PyData.depth]; omega) hb
    refine ⟨a :: (b1 ++ b2), ReadAtMost.cons r (by simp only [PyData.depth]; omega) hb, ?_⟩
    simp only [PyData.depth, PyData.shown, PyData.shownKv_eq]
    exact ReprK.dict e1 rfl rfl hsys hna (ReprEntriesK.of_two es.toList _ _
      (k1.more_le (fun b hb => List.mem_append_left _ hb) (PyData.depthAll_keys_le kvs)) (k2.more_le (fun b hb => List.mem_append_right _ hb) (PyData.depthAll_vals_le kvs)))
theorem rkA_of (I : Inv X pins σ H s) (sm : Same W H) : ∀ (ds : List D) (vs : List V) (us : List Value), RepL X.K X.w W ds vs → Vals vs us → PyData.showableAll ds = true → (∀ t ∈ PyData.shownAll ds, t.length ≤ sizeLine) →
    ∃ bs, ReadAtMost s.heap (PyData.depthAll ds) bs ∧ ReprAllK X.prog X.w bs s.heap (PyData.depthAll ds) us (PyData.shownAll ds)
  | [], vs, us, r, ru, hs, hz => by
    simp only [RepL] at r
    subst r
    cases ru
    exact ⟨[], (fun _ h => nomatch h), by simp only [PyData.shownAll]; exact .nil⟩
  | d :: ds, vs, us, r, ru, hs, hz => by
    simp only [RepL] at r
    obtain ⟨v, q, rfl, r1, r2⟩ := r
    cases ru with
    | cons u1 u2 =>
      have hs' : d.showable = true ∧ PyData.showableAll ds = true := by simpa [PyData.showableAll] using hs
      obtain ⟨b1, hb1, k1⟩ := rk_of I sm d v _ r1 u1 hs'.1 (hz _ (by simp only [PyData.shownAll]; exact List.mem_cons_self ..))
      obtain ⟨b2, hb2, k2⟩ := rkA_of I sm ds q _ r2 u2 hs'.2 (fun t ht => hz t (by simp only [PyData.shownAll]; exact List.mem_cons_of_mem _ ht))
      refine ⟨b1 ++ b2, ?_, ?_⟩
      · intro b hm
        simp only [PyData.depthAll]
        rcases List.mem_append.mp hm with hm | hm
        · obtain ⟨d', as', r', hd'⟩ := hb1 b hm
          exact ⟨d', as', r', Nat.le_trans hd' (Nat.le_max_left _ _)⟩
        · obtain ⟨d', as', r', hd'⟩ := hb2 b hm
          exact ⟨d', as', r', Nat.le_trans hd' (Nat.le_max_right _ _)⟩
      · simp only [PyData.depthAll, PyData.shownAll]
        exact .cons ((k1.more fun b hb => List.mem_append_left _ hb).level_le (Nat.le_max_left _ _)) (k2.more_le (fun b hb => List.mem_append_right _ hb) (Nat.le_max_right _ _))
theorem rkK_of (I : Inv X pins σ H s) (sm : Same W H) : ∀ (kvs : List (D × D)) (es : List DictEntry), RepKV X.K X.w W kvs es → PyData.showableAll (kvs.map (·.1)) = true → PyData.showableAll (kvs.map (·.2)) = true →
    (∀ t ∈ PyData.shownAll (kvs.map (·.1)), t.length ≤ sizeLine) → (∀ t ∈ PyData.shownAll (kvs.map (·.2)), t.length ≤ sizeLine) →
    (∃ bs, ReadAtMost s.heap (PyData.depthAll (kvs.map (·.1))) bs ∧ ReprAllK X.prog X.w bs s.heap (PyData.depthAll (kvs.map (·.1))) (es.map (·.key)) (PyData.shownAll (kvs.map (·.1)))) ∧
    ∃ bs, ReadAtMost s.heap (PyData.depthAll (kvs.map (·.2))) bs ∧ ReprAllK X.prog X.w bs s.heap (PyData.depthAll (kvs.map (·.2))) (es.map (·.val)) (PyData.shownAll (kvs.map (·.2)))
  | [], es, r, _, _, _, _ => by
    simp only [RepKV] at r
    subst r
    exact ⟨⟨[], (fun _ h => nomatch h), by simp only [PyData.shownAll, List.map_nil]; exact .nil⟩, [], (fun _ h => nomatch h), by simp only [PyData.shownAll, List.map_nil]; exact .nil⟩
  | (k, d) :: kvs, es, r, hs1, hs2, hz1, hz2 => by
    simp only [RepKV] at r
    obtain ⟨en, q, rfl, _, ⟨x, x1, x2⟩, ⟨y, y1, y2⟩, h5⟩ := r
    simp only [List.map_cons] at hs1 hs2 hz1 hz2 ⊢
    have hs1' : k.showable = true ∧ PyData.showableAll (kvs.map (·.1)) = true := by simpa [PyData.showableAll] using hs1
    have hs2' : d.showable = true ∧ PyData.showableAll (kvs.map (·.2)) = true := by simpa [PyData.showableAll] using hs2
    obtain ⟨a1, ha1, i1⟩ := rk_of I sm k x _ x2 x1 hs1'.1 (hz1 _ (by simp only [PyData.shownAll]; exact List.mem_cons_self ..))
    obtain ⟨a2, ha2, i2⟩ := rk_of I sm d y _ y2 y1 hs2'.1 (hz2 _ (by simp only [PyData.shownAll]; exact List.mem_cons_self ..))
    obtain ⟨⟨b1, hb1, k1⟩, b2, hb2, k2⟩ := rkK_of I sm kvs q h5 hs1'.2 hs2'.2 (fun t ht => hz1 t (by simp only [PyData.shownAll]; exact List.mem_cons_of_mem _ ht)) (fun t ht => hz2 t (by simp only [PyData.shownAll]; exact List.mem_cons_of_mem _ ht))
    refine ⟨⟨a1 ++ b1, ?_, ?_⟩, a2 ++ b2, ?_, ?_⟩
    · intro b hm
      simp only [PyData.depthAll]
      rcases List.mem_append.mp hm with hm | hm
      · obtain ⟨d', as', r', hd'⟩ := ha1 b hm
        exact ⟨d', as', r', Nat.le_trans hd' (Nat.le_max_left _ _)⟩
      · obtain ⟨d', as', r', hd'⟩ := hb1 b hm
        exact ⟨d', as', r', Nat.le_trans hd' (Nat.le_max_right _ _)⟩
    · simp only [PyData.depthAll, PyData.shownAll]
      exact .cons ((i1.more fun b hb => List.mem_append_left _ hb).level_le (Nat.le_max_left _ _)) (k1.more_le (fun b hb => List.mem_append_right _ hb) (Nat.le_max_right _ _))
    · intro b hm
      simp only [PyData.depthAll]
      rcases List.mem_append.mp hm with hm | hm
      · obtain ⟨d', as', r', hd'⟩ := ha2 b hm
        exact ⟨d', as', r', Nat.le_trans hd' (Nat.le_max_left _ _)⟩
      · obtain ⟨d', as', r', hd'⟩ := hb2 b hm
        exact ⟨d', as', r', Nat.le_trans hd' (Nat.le_max_right _ _)⟩
    · simp only [PyData.depthAll, PyData.shownAll]
      exact .cons ((i2.more fun b hb => List.mem_append_left _ hb).level_le (Nat.le_max_left _ _)) (k2.more_le (fun b hb => List.mem_append_right _ hb) (Nat.le_max_right _ _))
end
theorem showsBy_rep (I : Inv X pins σ H s) (sm : Same W H) {d : D} {v : V} {a : Addr} (r : Rep X.K X.w W d v) (ru : RelV v (.ref a)) (hs : d.showable = true) (hsz : d.shown.length ≤ sizeLine) : ∃ T idr, ShowsBy X.prog X.w s.heap a d T idr := by
  cases d with
  | none => simp only [Rep] at r; subst r; cases ru
  | bool b => simp only [Rep] at r; subst r; cases ru
  | int i => simp only [Rep] at r; subst r; obtain ⟨t, e⟩ := ru; cases e
  | str x => simp only [Rep] at r; subst r; obtain ⟨t, e⟩ := ru; cases e
  | list ds =>
    have hz' : (listText (PyData.shownAll ds)).length ≤ sizeLine := by simpa only [PyData.shown] using hsz
    simp only [Rep] at r
    obtain ⟨a, vs, rfl, q, l⟩ := r
    cases ru
    obtain ⟨its, rv, ⟨o, n, h1, h2, _, h3⟩, _⟩ := I.list (xs := vs) (.of (sm _ _ q))
    obtain ⟨bs, hb, hk⟩ := rkA_of I sm ds vs its l rv (by simpa [PyData.showable] using hs) (fun t ht => Nat.le_trans (listText_mem_le ht) hz')
    obtain ⟨as, ra⟩ := RepL.reads I sm ds vs its l rv
    have hna : a ∉ bs := not_mem_of_deeper (.list h1 h2 h3 (by simpa using ra)) (by simp only [PyData.depth]; omega) hb
    refine ⟨"list", "list.__repr__", F.slot_list_repr.toG, F.slot_list_str, F.slot_list_format, fun s hk0 => ⟨o, hk0 _ _ h1, h2⟩, fun A E s Q hg hu hk0 hQ => ?_⟩
    simp only [PyData.depth] at hu
    simp only [PyData.shown] at hQ
    cases its with
    | nil =>
      cases ra
      simp only [PyData.shownAll, listText_nil] at hQ
      exact call_list_repr_empty ⟨o, hk0 _ _ h1, h2⟩ (hk0 _ _ h1) h3 (hQ s.heap _ _ fun _ _ e => e)
    | cons x l => exact call_list_reprK h1 h2 h3 hna (by simpa using hk.length_eq) (fun i y e => hk.item i y (by simpa using e)) hg (fun b _ => Clear.nil b) hu hk0 hQ hz'
  | tuple ds =>
    have hz' : (tupleText (PyData.shownAll ds)).length ≤ sizeLine := by simpa only [PyData.shown] using hsz
    simp only [Rep] at r
    obtain ⟨a, vs, rfl, q, l⟩ := r
    cases ru
    obtain ⟨its, rv, ⟨o, h1, h2, n, h3⟩, _⟩ := I.tuple (Same.sqt sm q)
    obtain ⟨bs, hb, hk⟩ := rkA_of I sm ds vs its l rv (by simpa [PyData.showable] using hs) (fun t ht => Nat.le_trans (tupleText_mem_le ht) hz')
    obtain ⟨as, ra⟩ := RepL.reads I sm ds vs its l rv
    have hna : a ∉ bs := not_mem_of_deeper (.tuple h1 h2 h3 (by simpa using ra)) (by simp only [PyData.depth]; omega) hb
    refine ⟨"tuple", "tuple.__repr__", F.slot_tuple_repr, F.slot_tuple_str, F.slot_tuple_format, fun s hk0 => ⟨o, hk0 _ _ h1, h2⟩, fun A E s Q hg hu hk0 hQ => ?_⟩
    simp only [PyData.depth] at hu
    simp only [PyData.shown] at hQ
    exact call_tuple_reprK h1 h2 h3 hna (by simpa using hk) hg (fun b _ => Clear.nil b) hu hk0 hQ hz'
  | dict kvs =>
    have hz' : (dictText (PyData.shownKv kvs)).length ≤ sizeLine := by simpa only [PyData.shown] using hsz
    simp only [Rep] at r
    obtain ⟨a, es, ep, rfl, q, l, _⟩ := r
    cases ru
    obtain ⟨⟨hsys, _, h1⟩, _⟩ := I.hok a _ (sm _ _ q)
    obtain ⟨hs1, hs2⟩ := PyData.showableKv_split kvs (by simpa [PyData.showable] using hs)
    obtain ⟨as, bs, ra, rb⟩ := RepKV.reads I sm kvs es.toList l
    obtain ⟨⟨b1, hb1, k1⟩, b2, hb2, k2⟩ := rkK_of I sm kvs es.toList l hs1 hs2 (fun t ht => let ⟨p, hp, hl⟩ := PyData.shownKv_key_le kvs t ht; Nat.le_trans hl (Nat.le_trans (dictText_mem_le hp) hz')) (fun t ht => let ⟨p, hp, hl⟩ := PyData.shownKv_val_le kvs t ht; Nat.le_trans hl (Nat.le_trans (dictText_mem_le hp) hz'))
    have hb : ReadAtMost s.heap (PyData.depthKv kvs) (b1 ++ b2) := (hb1.mono (PyData.depthAll_keys_le kvs)).append (hb2.mono (PyData.depthAll_vals_le kvs))
    have hna : a ∉ b1 ++ b2 := not_mem_of_deeper (.dict h1 rfl rfl ra rb) (by simp only [PyData.depth]; omega) hb
    refine ⟨"dict", "dict.__repr__", F.slot_dict_repr, F.slot_dict_str, F.slot_dict_format, fun s hk0 => ⟨_, hk0 _ _ h1, rfl⟩, fun A E s Q hg hu hk0 hQ => ?_⟩
    simp only [PyData.depth] at hu
    simp only [PyData.shown, PyData.shownKv_eq] at hQ
    exact call_dict_reprK h1 rfl rfl hsys hna (ReprEntriesK.of_two es.toList _ _
      (k1.more_le (fun b hb => List.mem_append_left _ hb) (PyData.depthAll_keys_le kvs)) (k2.more_le (fun b hb => List.mem_append_right _ hb) (PyData.depthAll_vals_le kvs))) hg (fun b _ => Clear.nil b) hu hk0 hQ (by rw [← PyData.shownKv_eq]; exact hz')
end
/-- repr(x), dicts in it or not -/
def reprD2 (ds : List D) : Option D := match ds with
  | [d] => if d.showable = true ∧ d.depth ≤ 60 ∧ d.shown.length ≤ sizeLine then some (.str d.shown) else none
  | _ => none
theorem cr_reprD2 {X : Cx} (hq : X.A.guards = some []) (hu : X.A.units + 64 < cLine) : CallR X (.builtin "repr") (tVn X.K X.w reprD2) := by
  intro pins s σ H xs us Q I r h
  obtain ⟨W, ds, sm, rl, h⟩ := h
  unfold reprD2 at h
  split at h
  · rename_i d
    simp only [RepL] at rl
    obtain ⟨v, _, rfl, rv, rfl⟩ := rl
    obtain ⟨u, rfl, rx⟩ := vals1 r
    split at h
    · rename_i c
      obtain ⟨c1, c3, c4⟩ := c
      by_cases hd : d.hasDict = true
      · obtain ⟨a, ea⟩ : ∃ a, v = .ref a := by
          cases d with
          | list ds => simp only [Rep] at rv; obtain ⟨a, _, e, _⟩ := rv; exact ⟨a, e⟩
          | tuple ds => simp only [Rep] at rv; obtain ⟨a, _, e, _⟩ := rv; exact ⟨a, e⟩
          | dict kvs => simp only [Rep] at rv; obtain ⟨a, _, _, e, _⟩ := rv; exact ⟨a, e⟩
          | _ => simp [PyData.hasDict] at hd
        subst ea
        cases rx
        obtain ⟨T, idr, S⟩ := showsBy_rep I sm rv rfl c1 c4
        have fin : ∀ h' t tk, (∀ b o, s.heap.get? b = some o → h'.get? b = some o) → EP X pins σ Q (.str d.shown t) { s with heap := h', toks := tk } := fun h' t tk hk =>
          ⟨.str d.shown, H, I.kept (h' := h') (t' := tk) hk, ⟨t, rfl⟩, h.flat sm rfl⟩
        exact call_repr_slot (by omega) (S.typeIs s fun _ _ e => e) S.slotRepr (S.call X.A.in1 X.xe s _ hq (by show X.A.units + 1 + d.depth < cLine; omega) (fun _ _ e => e) fun h' u tk hk => ⟨_, _, rfl, fin h' u tk hk⟩)
      · refine cr_reprD hq hu pins s σ H _ _ Q I r ⟨W, [d], sm, RepL.cons rv RepL.nil, ?_⟩
        unfold reprD
        simp only
        rw [if_pos ⟨c1, by simpa using hd, c3, c4⟩]
        exact h
    · exact h.elim
  · exact h.elim
end DP
set_option Elab.async false
set_option linter.all false
set_option maxRecDepth 100000
/-! DP, part 42: xs.pop(), xs.insert(i, y); while, with turns told. -/
namespace DP
open PySem PySem.Spec PyProof.Rows L2

def opPop (ds as : List D) : Option (D × List D) := match as with
  | [] => (ds[ds.length - 1]?).map fun d => (d, ds.dropLast)
  | _ => none
def opIns (ds as : List D) : Option (D × List D) := match as with
  | [.int i, d] => if 0 ≤ i ∧ i < 2 ^ 63 ∧ ds.length < sizeLine then some (.none, ds.take i.toNat ++ [d] ++ ds.drop i.toNat) else none
  | _ => none
section
variable {X : Cx} {Wx : WX}
theorem RepL.dropLast {K : PySem.W.Frag} {w : World} {W : Hp} {ds : List D} {vs : List V} (h : RepL K w W ds vs) : RepL K w W ds.dropLast vs.dropLast := by
  rw [List.dropLast_eq_take, List.dropLast_eq_take, h.len]
  exact h.take _
theorem mut_pop : MutR X rPop opPop := by
  intro W H p ds as vs us z ds' Q s n h r ra e q
  unfold opPop at e
  split at e
  · obtain ⟨d, e1, e2⟩ := Option.map_eq_some_iff.mp e
    cases e2
    simp only [RepL] at ra
    subst ra
    obtain ⟨v, g1, g2⟩ := r.at e1
    exact ⟨p, vs, v, rfl, rfl, h, by rw [r.len]; exact g1, q _ _ r.dropLast g2⟩
  · cases e
theorem mut_ins : MutR X (fun x vs H Q => ∃ (l : Addr) (xs : List V) (i : Int) (y : V), x = .ref l ∧ vs = [.int i, y] ∧ H l = some (.lst xs) ∧ xs.length < sizeLine ∧ 0 ≤ i ∧ i < 2 ^ 63 ∧
    Q .non (upd H l (.lst (xs.take i.toNat ++ [y] ++ xs.drop i.toNat)))) opIns := by
  intro W H p ds as vs us z ds' Q s n h r ra e q
  unfold opIns at e
  split at e
  · split at e
    · rename_i c
      cases e
      simp only [RepL, Rep] at ra
      obtain ⟨_, _, rfl, rfl, y, _, rfl, ry, rfl⟩ := ra
      exact ⟨p, vs, _, y, rfl, rfl, h, by rw [r.len]; exact c.2.2, c.1, c.2.1, q _ _ (((r.take _).append (RepL.cons ry RepL.nil)).append (r.drop _)) rfl⟩
    · cases e
  · cases e
theorem ex_mutL0 {i : Nat} {x name : Str} {id : String} {p apos cpos : Pos} {r : V → List V → Hp → VK → Prop} {op : List D → List D → Option (D × List D)} (slot : Slot "list" name id) (hty : typeOf (.builtin id) = pure (.type "method_descriptor")) (hm : MtR X id r) (mu : MutR X r op)
    (h : PE X (.Name x p) (tVar i)) (hbase : attributeBase (.Name x p) name X.env (eval (.Name x p) X.env) = eval (.Name x p) X.env := by rfl) (hline : (apos.endLine == cpos.line) = true := by rfl) :
    EX X Wx (.Call (.Attribute (.Name x p) name apos) [] [] cpos) (xMutL i op aNil) := by
  refine PE.wk (pe_bm0 PySem.F.plainAttrs_list slot hty hm h hbase hline) ?_
  rintro σ H Q ⟨ρ, W, env, A, S, h⟩
  unfold xMutL at h
  split at h
  · rename_i t ds e1
    obtain ⟨v, l, h1, h2, h3⟩ := S.at e1
    obtain ⟨p, rfl, rfl, q3, ⟨vs, q4, rv⟩, _⟩ := h3
    refine ⟨.ref p, h1, .inl ⟨rfl, vs, .of q4⟩, ?_⟩
    simp only [aNil, Out.bind_ok] at h
    rw [e1] at h
    simp only at h
    split at h
    · rename_i z ds' eo
      refine mu W H p ds [] vs [] z ds' Q S.sub q3 q4 rv RepL.nil eo fun vs' v rv' rz => ?_
      obtain ⟨S2, F2⟩ := S.mut (c' := .list ds') (o := .lst vs') e1 h1 ⟨vs', upd_same, rv'⟩
      exact h W _ A v S2 F2 rz
    · exact h.elim
  · exact h.elim
end
end DP
set_option Elab.async false
set_option linter.all false
set_option maxRecDepth 100000
/-! DP, part 43: defs that change a container handed in as the last argument; defs that call themselves. -/
namespace DP
open PySem PySem.Spec PyProof.Rows L2

/-- what a def reckons of its arguments and the container: its value, the container behind it -/
abbrev FIO := List D → D → Out (D × D)
def onIO (K : PySem.W.Frag) (w : World) (W H : Hp) (p : Addr) (o : Out (D × D)) (Q : VK) : Prop := match o with
  | .ok (d, c') => ∀ W' H' v, Fr W H (· = p) W' H' (· = p) → Same W' H' → W' p = none → Own K w W' H' c' p → Rep K w W' d v → Q v H'
  | _ => False
def spIO (K : PySem.W.Frag) (w : World) (n : Nat) (F : FIO) : Sp := fun vs H Q _ => ∃ W ds c p vs', vs = vs' ++ [V.ref p] ∧ Same W H ∧ RepL K w W ds vs' ∧ ds.length = n ∧ W p = none ∧ Own K w W H c p ∧ onIO K w W H p (F ds c) Q
def endIO (n : Nat) (d : D) (e : Ev) : Out (D × D) := match e[n]? with
  | some (.ow (some 0) c') => .ok (d, c')
  | _ => .bad
/-- a body of N slots run at n arguments and the container -/
def runIO (N n : Nat) (B : SF) : FIO := fun ds c => match B (ds.map .fz ++ .ow (some 0) c :: List.replicate (N - (n + 1)) .no) with
  | .ok (.rt d, e) => endIO n d e
  | .ok (.nx, e) => endIO n .none e
  | _ => .bad
structure DefIO (P : Program) (w : World) (K : PySem.W.Frag) (mg : Str → Option Value) (base : Heap) (k : Nat) (x : Str) (ps : List Str) (n : Nat) (F : FIO) : Prop where
  ex : ∃ f fd, FnG P w K mg base k f fd ps (spIO K w n F) ∧ mg x = some (.ref f) ∧ PySem.W.keepIn K (.ref f) = true ∧ Binds K fd ps []
section
variable {K : PySem.W.Frag} {w : World}
theorem SR.startIO {W H : Hp} {ds : List D} {c : D} {p : Addr} {vs : List V} {N : List Str} (s : Same W H) (r : RepL K w W ds vs) (n : W p = none) (o : Own K w W H c p) (hN : ds.length + 1 ≤ N.length) :
    SR K w (fun _ => p) W H (ds.map .fz ++ .ow (some 0) c :: List.replicate (N.length - (ds.length + 1)) .no) (L2.start N (vs ++ [.ref p])) (List.replicate ds.length [] ++ [p] :: List.replicate (N.length - (ds.length + 1)) []) := by
  have hl := r.len
  have hst : (L2.start N (vs ++ [V.ref p])).length = N.length := by
    unfold L2.start
    simp only [List.length_append, List.length_map, List.length_replicate, List.length_cons, List.length_nil]
    omega
  refine ⟨s, ?_, ?_, fun i sl v l h1 h2 h3 => ?_, fun i j l m q h1 h2 h3 h4 => ?_⟩
  · rw [hst]
    simp only [List.length_append, List.length_map, List.length_replicate, List.length_cons]
    omega
  · rw [hst]
    simp only [List.length_append, List.length_replicate, List.length_cons]
    omega
  · unfold L2.start at h2
    rw [List.map_append, List.append_assoc] at h2
    by_cases hi : i < ds.length
    · rw [List.getElem?_append_left (by simpa using hi), List.getElem?_map, List.getElem?_eq_getElem hi] at h1
      cases h1
      rw [List.getElem?_append_left (by simp; omega), List.getElem?_map] at h2
      rw [List.getElem?_append_left (by simpa using hi), List.getElem?_replicate, if_pos hi] at h3
      cases h3
      obtain ⟨x, hx, rx⟩ := r.at (List.getElem?_eq_getElem hi)
      rw [hx] at h2
      cases h2
      exact ⟨rfl, x, rfl, rx⟩
    · rw [List.getElem?_append_right (by simp; omega)] at h1 h2 h3
      simp only [List.length_map, List.length_replicate] at h1 h2 h3
      rw [hl] at h2
      by_cases he : i - ds.length = 0
      · rw [he] at h1 h2 h3
        cases h1
        cases h2
        cases h3
        exact ⟨p, rfl, rfl, n, o, fun _ _ => rfl⟩
      · obtain ⟨j, hj⟩ : ∃ j, i - ds.length = j + 1 := ⟨i - ds.length - 1, by omega⟩
        rw [hj] at h1 h2 h3
        rw [List.getElem?_cons_succ, List.getElem?_replicate] at h1 h3
        split at h1 <;> cases h1
        split at h3 <;> cases h3
        all_goals exact rfl
  · have at_ : ∀ {i : Nat} {l : List Addr}, (List.replicate ds.length [] ++ [p] :: List.replicate (N.length - (ds.length + 1)) [])[i]? = some l → q ∈ l → i = ds.length := by
      intro i l h hq
      by_cases hi : i < ds.length
      · rw [List.getElem?_append_left (by simpa using hi), List.getElem?_replicate, if_pos hi] at h
        cases h; cases hq
      · rw [List.getElem?_append_right (by simp; omega)] at h
        simp only [List.length_replicate] at h
        by_cases he : i - ds.length = 0
        · omega
        · obtain ⟨j, hj⟩ : ∃ j, i - ds.length = j + 1 := ⟨i - ds.length - 1, by omega⟩
          rw [hj, List.getElem?_cons_succ, List.getElem?_replicate] at h
          split at h <;> cases h
          cases hq
    rw [at_ h1 h3, at_ h2 h4]
theorem own_io {n m : Nat} {p q : Addr} : ownd (List.replicate n [] ++ [p] :: List.replicate m []) q ↔ q = p := by
  constructor
  · rintro ⟨i, l, h, hq⟩
    by_cases hi : i < n
    · rw [List.getElem?_append_left (by simpa using hi), List.getElem?_replicate, if_pos hi] at h
      cases h; cases hq
    · rw [List.getElem?_append_right (by simp; omega)] at h
      simp only [List.length_replicate] at h
      by_cases he : i - n = 0
      · rw [he] at h
        cases h
        simpa using hq
      · obtain ⟨j, hj⟩ : ∃ j, i - n = j + 1 := ⟨i - n - 1, by omega⟩
        rw [hj, List.getElem?_cons_succ, List.getElem?_replicate] at h
        split at h <;> cases h
        cases hq
  · rintro rfl
    exact ⟨n, [q], by rw [List.getElem?_append_right (by simp)]; simp, by simp⟩
theorem Fr.io {W H W' H' : Hp} {n m : Nat} {p : Addr} {A' : List (List Addr)} (F : Fr W H (ownd (List.replicate n [] ++ [p] :: List.replicate m [])) W' H' (ownd A')) : Fr W H (· = p) W' H' (· = p) :=
  ⟨F.ext, fun q o h hq => F.keep q o h fun z => hq (own_io.mp z), fun q h1 h2 => (F.new q h1 h2).imp own_io.mp id, fun q h => .inl h⟩
end
section
variable {P : Program} {w : World} {K : PySem.W.Frag} {mg : Str → Option Value} {base : Heap}
theorem fnG_io {x qual : Str} {st : Stmt} {f : Addr} {fd : FuncData} {N ps : List Str} {k n : Nat} {B : SF} (Fn : Fun K x qual st f fd) (S : FnScope N ps (defScope st)) (hp : ps.length = n + 1) (hN : n + 1 ≤ N.length)
    (body : ∀ (cdv : Value) (A : Around) (outer : List Env) (s : Shared) (H : Hp) (E : XK), Room k (A.deeper (envOfC qual (defScope st) s.heap.objs.size f cdv)) → A.guards = some [] →
      EB (cxOf (L2.CX P w) P w K mg base N qual (defScope st) f cdv A outer s H E) (fun cls d _ H => E cls d H) (defBody st) B) : FnG P w K mg base (k + 1) f fd ps (spIO K w n (runIO N.length n B)) := by
  refine fnG_of Fn S (fun vs H Q E h => ?_) fun cdv A outer s H vs Q E hr hg h => ⟨_, body cdv A outer s H E hr hg, ?_⟩
  · obtain ⟨W, ds, c, p, vs', rfl, _, r, hl, _⟩ := h
    rw [List.length_append, r.len, hl, hp]
    rfl
  · obtain ⟨W, ds, c, p, vs', rfl, sm, r, hl, hn, ow, h⟩ := h
    have S0 := SR.startIO (N := N) sm r hn ow (by omega)
    refine ⟨fun _ => p, W, _, _, S0, ?_⟩
    unfold runIO at h
    subst hl
    have fin : ∀ {d : D} {e : Ev} {W' H' : Hp} {A' : List (List Addr)} {σ' : L2.St}, onIO K w W H p (endIO ds.length d e) Q → SR K w (fun _ => p) W' H' e σ' A' → Fr W H (ownd (List.replicate ds.length [] ++ [p] :: List.replicate (N.length - (ds.length + 1)) [])) W' H' (ownd A') → ∀ v, Rep K w W' d v → Q v H' := by
      intro d e W' H' A' σ' h S' F' v rv
      unfold endIO at h
      split at h
      · rename_i c' e0
        obtain ⟨v0, l0, g1, g2, p', rfl, rfl, q3, q4, q5⟩ := S'.at e0
        have ep : p = p' := q5 0 rfl
        subst ep
        exact h W' H' v F'.io S'.sub q3 q4 rv
      · exact h.elim
    cases eb : B (ds.map .fz ++ .ow (some 0) c :: List.replicate (N.length - (ds.length + 1)) .no) with
    | bad => rw [eb] at h; exact h.elim
    | exc c d e => rw [eb] at h; exact h.elim
    | ok q =>
      obtain ⟨fl, env'⟩ := q
      rw [eb] at h
      cases fl with
      | nx => exact fun W' H' A' σ' S' F' => fin h S' F' _ rfl
      | rt d => exact fun W' H' A' σ' S' F' v rv => fin h S' F' v rv
      | bk => exact h.elim
      | ct => exact h.elim
/-- no turns left: nothing is promised -/
theorem fnG_bad {f : Addr} {fd : FuncData} {ps : List Str} {k n : Nat} : FnG P w K mg base k f fd ps (spIO K w n (fun _ _ => .bad)) :=
  ⟨fun vs H Q E ⟨_, _, _, _, _, _, _, _, _, _, _, h⟩ => h.elim, fun A outer s H args us vs Q E _ _ _ _ _ ⟨_, _, _, _, _, _, _, _, _, _, _, h⟩ => h.elim⟩
theorem fnG_badF {f : Addr} {fd : FuncData} {ps : List Str} {k : Nat} {mg' : Str → Option Value} : FnG P w K mg base k f fd ps (spF K w mg' ps.length (fun _ => .bad)) :=
  ⟨fun vs H Q E ⟨_, _, _, _, _, h⟩ => h.elim, fun A outer s H args us vs Q E _ _ _ _ _ ⟨_, _, _, _, _, h⟩ => h.elim⟩
end

/-! ### the arguments, and the container behind them -/
def tLO (X : Cx) (Wx : WX) (i : Nat) (g : AF) : TA := fun σ H Q => ∃ u, σ[i]? = some (some u) ∧ tG X.K X.w X.mg Wx (fun W ds vs => ∃ vs', vs = vs' ++ [u] ∧ RepL X.K X.w W ds vs') g σ H Q
/-- .. a slot's -/
abbrev EAO (X : Cx) (Wx : WX) (es : List Expr) (i : Nat) (g : AF) : Prop := PA X es (tLO X Wx i g)
/-- .. a new one -/
def tLN (X : Cx) (g : AF) (fN : XF) : TA := fun σ H Q => ∃ ρ W env A, SR X.K X.w ρ W H env σ A ∧ ∃ ds c env', ((g env).bind fun r => (fN r.2).bind fun q => .ok ((r.1, q.1), q.2)) = .ok ((ds, c), env') ∧
  ∀ W' H' A' vs p, SR X.K X.w ρ W' H' env' σ A' → Fr W H (ownd A) W' H' (ownd A') → RepL X.K X.w W' ds vs → W' p = none → Own X.K X.w W' H' c p → ¬ ownd A' p → (ownd A p ∨ H p = none) → Q (vs ++ [.ref p]) H'
abbrev EAN (X : Cx) (es : List Expr) (g : AF) (fN : XF) : Prop := PA X es (tLN X g fN)
section
variable {X : Cx} {Wx : WX} {a : Expr} {es : List Expr} {f fN : XF} {g : AF} {i : Nat} {x : Str} {p pos : Pos}
theorem eao_last (h : PE X (.Name x p) (tVar i)) (hs : starEach [.Name x p] X.env = (false, eval (.Name x p) X.env) :: starEach [] X.env := by rfl) : EAO X Wx [.Name x p] i aNil := by
  refine PA.wk (pa_cons h pa_nil hs) ?_
  rintro σ H Q ⟨u, hu, ρ, W, env, A, S, h⟩
  exact ⟨u, hu, h W H A [u] S (Fr.refl _ _ _) ⟨[], rfl, RepL.nil⟩⟩
theorem eao_cons (ha : EX X Wx a f) (hr : EAO X Wx es i g) (hs : starEach (a :: es) X.env = (false, eval a X.env) :: starEach es X.env := by rfl) : EAO X Wx (a :: es) i (aCons f g) := by
  refine PA.wk (pa_cons ha hr hs) ?_
  rintro σ H Q ⟨u, hu, ρ, W, env, A, S, h⟩
  refine tG_then S h fun d W1 H1 env1 A1 v S1 F1 r1 h1 => ?_
  refine ⟨u, hu, tG_then S1 h1 fun ds W2 H2 env2 A2 vs S2 F2 r2 h2 => ?_⟩
  obtain ⟨vs', rfl, r2⟩ := r2
  exact h2 W2 H2 A2 _ S2 (Fr.refl _ _ _) ⟨v :: vs', rfl, RepL.cons (Rep.mono F2.ext d v r1) r2⟩
theorem ean_last (h : EN X Wx0 a fN) (hs : starEach [a] X.env = (false, eval a X.env) :: starEach [] X.env := by rfl) : EAN X [a] aNil fN := by
  refine PA.wk (pa_cons h pa_nil hs) ?_
  rintro σ H Q ⟨ρ, W, env, A, S, ds, c, env', e, h⟩
  refine ⟨ρ, W, env, A, S, ?_⟩
  simp only [aNil, Out.bind_ok] at e
  cases ef : fN env with
  | bad => rw [ef] at e; cases e
  | exc c d e' => rw [ef] at e; cases e
  | ok q =>
    obtain ⟨c1, env1⟩ := q
    rw [ef] at e
    cases e
    intro W' H' A' q S' F' n o k z
    exact h W' H' A' [] q S' F' RepL.nil n o k z
theorem ean_cons (ha : EX X Wx0 a f) (hr : EAN X es g fN) (hs : starEach (a :: es) X.env = (false, eval a X.env) :: starEach es X.env := by rfl) : EAN X (a :: es) (aCons f g) fN := by
  refine PA.wk (pa_cons ha hr hs) ?_
  rintro σ H Q ⟨ρ, W, env, A, S, ds, c, env', e, h⟩
  have e2 : ((f env).bind fun r => ((g r.2).bind fun q => (fN q.2).bind fun z => Out.ok ((r.1 :: q.1, z.1), z.2))) = .ok ((ds, c), env') := by
    rw [← e]
    unfold aCons
    cases f env with
    | bad => rfl
    | exc _ _ _ => rfl
    | ok r =>
      simp only [Out.bind_ok]
      cases g r.2 <;> rfl
  refine step0 S e2 fun d W1 H1 env1 A1 v S1 F1 r1 h1 => ?_
  cases eg : g env1 with
  | bad => rw [eg] at h1; cases h1
  | exc _ _ _ => rw [eg] at h1; cases h1
  | ok q =>
    obtain ⟨ds', env2⟩ := q
    simp only [eg, Out.bind_ok] at h1
    cases ef : fN env2 with
    | bad => rw [ef] at h1; cases h1
    | exc _ _ _ => rw [ef] at h1; cases h1
    | ok z =>
      obtain ⟨c', env3⟩ := z
      simp only [ef, Out.bind_ok] at h1
      cases h1
      refine ⟨ρ, W1, env1, A1, S1, ds', _, _, (by simp only [eg, ef, Out.bind_ok]; rfl), fun W' H' A' vs p S' F' r2 n o k z => ?_⟩
      refine h W' H' A' (v :: vs) p S' (F1.trans F') (RepL.cons (Rep.mono F'.ext d v r1) r2) n o k ?_
      rcases z with z | z
      · exact F1.own p z
      · cases q : H p with
        | none => exact .inr rfl
        | some u =>
          by_cases hp : ownd A p
          · exact .inl hp
          · have := F1.keep p u q hp
            rw [z] at this; cases this
end
def xCallIO (n : Nat) (F : FIO) (i : Nat) (g : AF) : XF := fun env => match env[i]? with
  | some (.ow _ _) => (g env).bind fun r => match r.2[i]? with
    | some (.ow t c) => if r.1.length = n then (match F r.1 c with
      | .ok (d, c') => .ok (d, r.2.set i (.ow t c'))
      | _ => .bad) else .bad
    | _ => .bad
  | _ => .bad
def xCallION (n : Nat) (F : FIO) (g : AF) (fN : XF) : XF := fun env => match ((g env).bind fun r => (fN r.2).bind fun q => Out.ok ((r.1, q.1), q.2)) with
  | .ok (r, e) => if r.1.length = n then (match F r.1 r.2 with
    | .ok (d, _) => .ok (d, e)
    | _ => .bad) else .bad
  | _ => .bad
theorem SR.io {K : PySem.W.Frag} {w : World} {ρ : Nat → Addr} {W H W' H' : Hp} {env : Ev} {σ : L2.St} {A : List (List Addr)} (S : SR K w ρ W H env σ A) {i : Nat} {t : Option Nat} {c c' : D} {p : Addr} (hi : env[i]? = some (.ow t c)) (hp : σ[i]? = some (some (.ref p)))
    (F : Fr W H (· = p) W' H' (· = p)) (sub : Same W' H') (hn : W' p = none) (ho : Own K w W' H' c' p) : SR K w ρ W' H' (env.set i (.ow t c')) σ A ∧ Fr W H (ownd A) W' H' (ownd A) := by
  obtain ⟨v, l, h1, h2, h3⟩ := S.at hi
  obtain ⟨p', rfl, e3, q1, q2, q3⟩ := h3
  rw [hp] at h1
  have ep : p' = p := by cases h1; cases e3; rfl
  subst ep
  refine ⟨⟨sub, by simp [S.le], S.la, fun j s v l j1 j2 j3 => ?_, S.inj⟩, F.ext, fun b u hb hnb => ?_, fun b h1 h4 => ?_, fun b hb => .inl hb⟩
  · rcases at_set j1 with ⟨e1, e2⟩ | ⟨e1, e2⟩
    · subst e1 e2
      rw [hp] at j2
      cases j2
      rw [h2] at j3
      cases j3
      exact ⟨p', rfl, rfl, hn, ho, q3⟩
    · refine (S.slot j s v l e2 j2 j3).keep F.ext fun b hb => ?_
      have hbp : b ≠ p' := fun z => e1 (S.inj j i l [p'] b j3 h2 hb (by simp [z]))
      obtain ⟨k1, u, k2⟩ := S.own ⟨j, l, j3, hb⟩
      refine ⟨by rw [k2]; exact F.keep b u k2 hbp, ?_⟩
      cases z : W' b with
      | none => rfl
      | some y =>
        rcases F.new b (by rw [z]; exact fun z => nomatch z) k1 with q | q
        · exact absurd q hbp
        · rw [k2] at q; cases q
  · exact F.keep b u hb fun z => hnb ⟨i, [p'], h2, by simp [z]⟩
  · rcases F.new b h1 h4 with q | q
    · exact .inl ⟨i, [p'], h2, by simp [q]⟩
    · exact .inr q
section
variable {X : Cx} {Wx : WX} {k j n i : Nat} {ps : List Str} {F : FIO} {x : Str} {p pos : Pos} {e : Expr} {es : List Expr} {g : AF} {fN : XF}
theorem ex_callIO (d : DefIO X.prog X.w X.K X.mg X.base k x ps n F) (hr : Room j X.A) (hk : k ≤ j) (hq : X.A.guards = some []) (hg : Gl X x) (tk : Takes X Wx) (ha : EAO X Wx (e :: es) i g)
    (hdb : (x == ("__debug__" : Str)) = false := by decide) (he : starEach (e :: es) X.env = (false, eval e X.env) :: starEach es X.env := by rfl) (hpl : (backTo pos (starEach es X.env)).any (·.1) = false := by rfl) :
    EX X Wx (.Call (.Name x p) (e :: es) [] pos) (xCallIO n F i g) := by
  obtain ⟨f, fd, G, h1, h2, h3⟩ := d.ex
  refine PE.wk (pe_callG (E := fun σ cls d H => Wx cls d σ H) G (hr.mono hk) hq hg h1 h2 h3 (fun σ => passAt tk σ) ha hdb he hpl) ?_
  rintro σ H Q ⟨ρ, W, env, A, S, h⟩
  unfold xCallIO at h
  split at h
  · rename_i t0 c0 e0
    obtain ⟨v0, l0, f1, f2, p, rfl, rfl, _⟩ := S.at e0
    refine ⟨.ref p, f1, tG_then S h fun ds W1 H1 env1 A1 vs S1 F1 r1 h4 => ?_⟩
    obtain ⟨vs', rfl, r1⟩ := r1
    simp only at h4
    split at h4
    · rename_i t c e1
      split at h4
      · rename_i hl
        obtain ⟨v, l, g1, g2, p', rfl, rfl, g3, g4, g5⟩ := S1.at e1
        rw [f1] at g1
        cases g1
        rw [List.append_nil]
        refine ⟨W1, ds, c, p, vs', rfl, S1.sub, r1, hl, g3, g4, ?_⟩
        cases eF : F ds c with
        | bad => rw [eF] at h4; exact h4.elim
        | exc _ _ _ => rw [eF] at h4; exact h4.elim
        | ok q =>
          obtain ⟨d, c'⟩ := q
          rw [eF] at h4
          intro W' H' v F' s' n' o' rv
          obtain ⟨S2, F2⟩ := S1.io e1 f1 F' s' n' o'
          exact h4 W' H' A1 v S2 F2 rv
      · exact h4.elim
    · exact h4.elim
  · exact h.elim
theorem ex_callION (d : DefIO X.prog X.w X.K X.mg X.base k x ps n F) (hr : Room j X.A) (hk : k ≤ j) (hq : X.A.guards = some []) (hg : Gl X x) (tk : Takes X Wx) (ha : EAN X (e :: es) g fN)
    (hdb : (x == ("__debug__" : Str)) = false := by decide) (he : starEach (e :: es) X.env = (false, eval e X.env) :: starEach es X.env := by rfl) (hpl : (backTo pos (starEach es X.env)).any (·.1) = false := by rfl) :
    EX X Wx (.Call (.Name x p) (e :: es) [] pos) (xCallION n F g fN) := by
  obtain ⟨f, fd, G, h1, h2, h3⟩ := d.ex
  refine PE.wk (pe_callG (E := fun σ cls d H => Wx cls d σ H) G (hr.mono hk) hq hg h1 h2 h3 (fun σ => passAt tk σ) ha hdb he hpl) ?_
  rintro σ H Q ⟨ρ, W, env, A, S, h⟩
  unfold xCallION at h
  split at h
  · rename_i r env' e0
    obtain ⟨ds, c⟩ := r
    split at h
    · rename_i hl
      refine ⟨ρ, W, env, A, S, ds, c, env', e0, fun W1 H1 A1 vs p S1 F1 r1 n1 o1 k1 z1 => ?_⟩
      show spIO X.K X.w n F ((vs ++ [V.ref p]) ++ []) H1 Q _
      rw [List.append_nil]
      refine ⟨W1, ds, c, p, vs, rfl, S1.sub, r1, hl, n1, o1, ?_⟩
      simp only at h
      cases eF : F ds c with
      | bad => rw [eF] at h; exact h.elim
      | exc _ _ _ => rw [eF] at h; exact h.elim
      | ok q =>
        obtain ⟨d, c'⟩ := q
        rw [eF] at h
        intro W' H' v F' s' n' o' rv
        have S2 : SR X.K X.w ρ W' H' env' σ A1 := S1.keep F'.ext s' fun b hb => by
          have hbp : b ≠ p := fun z => k1 (z ▸ hb)
          obtain ⟨q1, u, q2⟩ := S1.own hb
          refine ⟨by rw [q2]; exact F'.keep b u q2 hbp, ?_⟩
          cases z : W' b with
          | none => rfl
          | some y =>
            rcases F'.new b (by rw [z]; exact fun z => nomatch z) q1 with q | q
            · exact absurd q hbp
            · rw [q2] at q; cases q
        refine h W' H' A1 v S2 ⟨F1.ext.trans F'.ext, fun b u hb nb => ?_, fun b q1 q2 => ?_, F1.own⟩ rv
        · refine F'.keep b u (F1.keep b u hb nb) fun z => ?_
          rcases z1 with q | q
          · exact nb (z ▸ q)
          · rw [z, q] at hb; cases hb
        · cases z : W1 b with
          | some y => exact F1.new b (by rw [z]; exact fun z => nomatch z) q2
          | none =>
            rcases F'.new b q1 z with q | q
            · rw [q] at q1
              exact absurd n' q1
            · cases z2 : H b with
              | none => exact .inr rfl
              | some u =>
                by_cases hb : ownd A b
                · exact .inl hb
                · have := F1.keep b u z2 hb
                  rw [q] at this; cases this
    · exact h.elim
  · exact h.elim
end
end DP
set_option Elab.async false
set_option linter.all false
set_option maxRecDepth 100000
/-! DP, part 44: plain laws of the words for dicts. -/
namespace DP
open PySem L2
section
variable {env : Ev} {f g : XF} {o : D → D → Option D} {i n : Nat} {k : KF} {c : TF} {b : SF} {l : AF} {fN : XF} {F : FIO}
@[simp] theorem iIt_ap : iIt f env = (f env).bind fun r => liftO (itD r.1) r.2 := rfl
@[simp] theorem itD_l {ds : List D} : itD (.list ds) = some ds := rfl
@[simp] theorem itD_t {ds : List D} : itD (.tuple ds) = some ds := rfl
@[simp] theorem itD_d {kvs : List (D × D)} : itD (.dict kvs) = some (kvs.map (·.1)) := rfl
@[simp] theorem x2B_ap : x2B o f i env = (f env).bind fun r => match slotC r.2 i with
  | some c => liftO (o r.1 c) r.2
  | none => .bad := rfl
@[simp] theorem xLenB_ap {c : D} (h : slotC env i = some c) : xLenB i env = liftO (lenD [c]) env := by unfold xLenB; rw [h]
@[simp] theorem xIxB_ap {c : D} (h : slotC env i = some c) : xIxB i g env = (g env).bind fun r => match slotC r.2 i with
    | some c => liftO (ixD c r.1) r.2
    | none => .bad := by unfold xIxB; rw [h]; try rfl
@[simp] theorem xDict_ap : xDict k env = (k env).bind fun r => if pairsOk r.1 = true then .ok (.dict (dMerge [] r.1), r.2) else .bad := rfl
@[simp] theorem kNil_ap : kNil env = .ok ([], env) := rfl
@[simp] theorem kCons_ap : kCons f g k env = (f env).bind fun a => (g a.2).bind fun v => (k v.2).bind fun q => .ok ((a.1, v.1) :: q.1, q.2) := rfl
theorem setK_ok {fv fk : XF} {e1 e2 : Ev} {v kk : D} {t0 t : Option Nat} {kvs0 kvs : List (D × D)} (h1 : fv env = .ok (v, e1)) (h2 : e1[i]? = some (.ow t0 (.dict kvs0))) (h3 : fk e1 = .ok (kk, e2)) (h4 : e2[i]? = some (.ow t (.dict kvs))) (h5 : keyOk kk = true) (h6 : kvs.length < sizeLine) :
    sSetK i fv fk env = .ok (.nx, e2.set i (.ow t (.dict (dPut kvs kk v)))) := by
  unfold sSetK
  rw [h1]
  simp only [Out.bind_ok, h2, h3, h4]
  rw [if_pos ⟨h5, h6⟩]
theorem wh_no {m : Nat} {e1 : Ev} (h : c env = .ok (false, e1)) : whL c b (m + 1) env = .ok (.nx, e1) := by
  unfold whL
  rw [h]
  rfl
theorem wh_yes {m : Nat} {e1 e2 : Ev} (h : c env = .ok (true, e1)) (h2 : b e1 = .ok (.nx, e2)) : whL c b (m + 1) env = whL c b m e2 := by
  conv => lhs; unfold whL
  rw [h]
  simp only [Out.bind_ok, if_true, h2]
theorem callIO_ok {e1 : Ev} {ds : List D} {t0 t : Option Nat} {c0 cc c' d : D} (h0 : env[i]? = some (.ow t0 c0)) (h1 : l env = .ok (ds, e1)) (h2 : e1[i]? = some (.ow t cc)) (h3 : ds.length = n) (h4 : F ds cc = .ok (d, c')) : xCallIO n F i l env = .ok (d, e1.set i (.ow t c')) := by
  unfold xCallIO
  rw [h0]
  simp only [h1, Out.bind_ok, h2]
  rw [if_pos h3, h4]
theorem callION_ok {e1 e2 : Ev} {ds : List D} {cc c' d : D} (h1 : l env = .ok (ds, e1)) (h2 : fN e1 = .ok (cc, e2)) (h3 : ds.length = n) (h4 : F ds cc = .ok (d, c')) : xCallION n F l fN env = .ok (d, e2) := by
  unfold xCallION
  rw [h1]
  simp only [Out.bind_ok, h2]
  rw [if_pos h3, h4]
end
@[simp] theorem eq2_int (i j : Int) : eqD2 (.int i) (.int j) = some (.bool (decide (i = j))) := eq_int i j
@[simp] theorem ne2_int (i j : Int) : neD2 (.int i) (.int j) = some (.bool (decide (i ≠ j))) := ne_int i j
@[simp] theorem eq2_str (x y : Str) : eqD2 (.str x) (.str y) = some (.bool (decide (x = y))) := eq_strD x y
@[simp] theorem ne2_str (x y : Str) : neD2 (.str x) (.str y) = some (.bool (decide (x ≠ y))) := ne_strD x y
@[simp] theorem ne2_bool (x y : Bool) : neD2 (.bool x) (.bool y) = some (.bool (decide (x ≠ y))) := by cases x <;> cases y <;> rfl
@[simp] theorem ne2_noneI (j : Int) : neD2 .none (.int j) = some (.bool true) := rfl

/-! ### lists of ints -/
def iL (xs : List Int) : D := .list (xs.map .int)
@[simp] theorem iL_it (xs : List Int) : itD (iL xs) = some (xs.map .int) := rfl
@[simp] theorem iL_len (xs : List Int) : lenD [iL xs] = some (.int xs.length) := by simp [iL]
theorem iL_plain (xs : List Int) : (iL xs).plain = true := by simp [iL, PyData.plain, plain_ints]
theorem iL_depth (xs : List Int) : (iL xs).depth = 1 := by simp [iL, PyData.depth, depth_ints]
theorem iL_eqv (a b : List Int) : (iL a).eqv (iL b) = decide (a = b) := by simp only [iL, PyData.eqv]; exact eqv_ints a b
theorem iL_okD (a b : List Int) : okD (iL a) (iL b) = true := by unfold okD; rw [iL_depth, iL_depth]; decide
@[simp] theorem iL_eq (a b : List Int) : eqD2 (iL a) (iL b) = some (.bool (decide (a = b))) := by
  show eqD (iL a) (iL b) = _
  unfold eqD
  rw [iL_plain, iL_plain, iL_okD, iL_eqv]
  rfl
@[simp] theorem iL_ne (a b : List Int) : neD2 (iL a) (iL b) = some (.bool (decide (a ≠ b))) := by
  show neD (iL a) (iL b) = _
  unfold neD
  rw [iL_plain, iL_plain, iL_okD, iL_eqv]
  by_cases h : a = b <;> simp [h]
theorem iL_nil : iL [] = .list [] := rfl
@[simp] theorem iL_ne0 (a : List Int) : neD2 (iL a) (.list []) = some (.bool (decide (a ≠ []))) := iL_ne a []
theorem any_int (x : Int) : ∀ xs : List Int, (xs.map PyData.int).any (fun z => z.eqv (.int x)) = decide (x ∈ xs)
  | [] => rfl
  | y :: xs => by
    rw [List.map_cons, List.any_cons, any_int x xs]
    simp only [PyData.eqv]
    rw [Bool.eq_iff_iff]
    simp only [Bool.or_eq_true, beq_iff_eq, decide_eq_true_eq, List.mem_cons]
    exact or_congr eq_comm Iff.rfl
theorem inOk_int (x : Int) (xs : List Int) : inOk2 (.int x) (iL xs) = true := by
  show inOk (.int x) (.list _) = true
  simp [inOk, PyData.plain, plain_ints, depth_ints, PyData.depth]
@[simp] theorem in_iL (x : Int) (xs : List Int) : inD2 (.int x) (iL xs) = some (.bool (decide (x ∈ xs))) := by
  unfold inD2
  rw [if_pos (inOk_int x xs)]
  show some (PyData.bool ((xs.map PyData.int).any _)) = _
  rw [any_int]
@[simp] theorem nin_iL (x : Int) (xs : List Int) : ninD2 (.int x) (iL xs) = some (.bool (decide (x ∉ xs))) := by
  unfold ninD2
  rw [if_pos (inOk_int x xs)]
  show some (PyData.bool (!(xs.map PyData.int).any _)) = _
  rw [any_int]
  by_cases h : x ∈ xs <;> simp [h]
/-- a tuple of ints -/
@[simp] theorem in_tupI (x : Int) (xs : List Int) : inD2 (.int x) (tupI xs) = some (.bool (decide (x ∈ xs))) := by
  unfold inD2
  rw [if_pos (by show inOk (.int x) (.tuple _) = true; simp [inOk, PyData.plain, plain_ints, depth_ints, PyData.depth])]
  show some (PyData.bool ((xs.map PyData.int).any _)) = _
  rw [any_int]
@[simp] theorem nin_tupI (x : Int) (xs : List Int) : ninD2 (.int x) (tupI xs) = some (.bool (decide (x ∉ xs))) := by
  unfold ninD2
  rw [if_pos (by show inOk (.int x) (.tuple _) = true; simp [inOk, PyData.plain, plain_ints, depth_ints, PyData.depth])]
  show some (PyData.bool (!(xs.map PyData.int).any _)) = _
  rw [any_int]
  by_cases h : x ∈ xs <;> simp [h]
theorem add_iL (a b : List Int) (h : a.length + b.length ≤ 10000) : addD (iL a) (iL b) = some (iL (a ++ b)) := by
  unfold addD iL
  simp only
  rw [if_pos (by rw [List.length_map, List.length_map, sizeLine_eq]; omega), List.map_append]
@[simp] theorem list_iL (a : List Int) : listD2 [iL a] = some (iL a) := rfl
@[simp] theorem list_tupI (a : List Int) : listD2 [tupI a] = some (iL a) := rfl
@[simp] theorem tuple_iL (a : List Int) : tupleD [iL a] = some (tupI a) := rfl
theorem any_bools (l : List Bool) : anyD [.list (l.map PyData.bool)] = some (.bool (l.any id)) := by
  show (boolsD (l.map PyData.bool)).map _ = _
  rw [boolsD_map]
  rfl
/-! sorted -/
def srtZ (xs : List Int) : List Int := xs.mergeSort leZ
theorem srtOk_ints (xs : List Int) : srtOk (xs.map PyData.int) = true := by
  simp [srtOk, PySem.W.alike, PyData.depth]
theorem sortL_ints (xs : List Int) : sortL (xs.map PyData.int) = (srtZ xs).map PyData.int := by
  unfold sortL srtZ
  refine (List.map_mergeSort (r := leZ) (s := dLe) (f := PyData.int) (l := xs) (fun a _ b _ => ?_)).symm
  show leZ a b = !PySem.W.dataLt (.int b) (.int a)
  rw [PySem.W.dataLt_int, PySem.W.not_lt_int]
  rfl
@[simp] theorem sorted_iL (xs : List Int) : sortedD2 [iL xs] = some (iL (srtZ xs)) := by
  show (if srtOk (xs.map PyData.int) = true then some (PyData.list (sortL (xs.map PyData.int))) else none) = _
  rw [if_pos (srtOk_ints xs), sortL_ints]
  rfl
theorem srtZ_pw (xs : List Int) : (srtZ xs).Pairwise (fun a b => leZ a b = true) :=
  List.pairwise_mergeSort (fun a b c h k => by unfold leZ at *; exact decide_eq_true (Int.le_trans (of_decide_eq_true h) (of_decide_eq_true k))) (fun a b => by
    unfold leZ
    rcases Int.le_total a b with h | h
    · rw [decide_eq_true h]; rfl
    · rw [decide_eq_true h, Bool.or_true]) _
theorem srtZ_perm (xs : List Int) : (srtZ xs).Perm xs := List.mergeSort_perm _ _
theorem mem_srtZ {xs : List Int} {a : Int} : a ∈ srtZ xs ↔ a ∈ xs := (srtZ_perm xs).mem_iff
/-- a list with the same members, rising, is the sorted one -/
theorem srtZ_eq {xs ys : List Int} (h : ys.Pairwise (· < ·)) (p : ys.Perm xs) : srtZ xs = ys := by
  refine (sorted_one (le := leZ) leZ_anti ?_ (h.imp fun q => decide_eq_true (Int.le_of_lt q)) (srtZ_pw xs)).symm
  exact p.trans (srtZ_perm xs).symm
theorem setZ_self {xs : List Int} (h : xs.Pairwise (· < ·)) : setZ xs = xs := (setZ_eq h fun _ => Iff.rfl).symm
theorem setZ_lt (xs : List Int) : (setZ xs).Pairwise (· < ·) := by
  have h1 := setZ_pw xs
  have h2 := setZ_nodup xs
  refine List.Pairwise.imp₂ (fun a b h n => ?_) h1 h2
  have := of_decide_eq_true (show decide (a ≤ b) = true from h)
  exact by omega
theorem rising_eq {xs : List Int} : xs = setZ xs ↔ xs.Pairwise (· < ·) := ⟨fun h => h ▸ setZ_lt xs, fun h => (setZ_self h).symm⟩
theorem pw_ext {xs ys : List Int} (h : xs.Pairwise (· < ·)) (k : ys.Pairwise (· < ·)) (m : ∀ a, a ∈ xs ↔ a ∈ ys) : xs = ys := by
  rw [← setZ_self h]
  exact (setZ_eq k fun a => (m a).symm).symm
end DP
set_option Elab.async false
set_option linter.all false
set_option maxRecDepth 100000
set_option maxHeartbeats 1000000
namespace K09
open PySem PySem.Spec PyProof.Rows L2 DP
def topS (i : Nat) : Stmt := PySem.Challenge.pw_waysflooded_k09_main_rounds_that_never_l.main.body.getD i (.Pass ⟨0, 0, 0, 0⟩)
abbrev st_is_hops : Stmt := topS 5
abbrev N_is_hops : List Str := ["told", "router", "hops", "hop"]
abbrev P_is_hops : List Str := ["told"]
theorem S_is_hops : FnScope N_is_hops P_is_hops (defScope st_is_hops) := ⟨rfl, rfl, rfl, by decide +kernel, rfl, by decide +kernel, by decide +kernel⟩
def E1_is_hops : XF :=
    xVar 1
def E2_is_hops : XF :=
    x2 inD2 (xVar 3) (xVar 0)
def Y3_is_hops : SF :=
    sSeq (sSet 2 (x2 ixD (xVar 0) (xVar 1)))
    (sIf (tOrF (tst (x2 neD2 (xn listD2 (aCons (xVar 2) (aNil))) (xSortSetI (xVar 2)))) (tOrF (tst (x2 inD2 (xVar 1) (xVar 2))) (tNotF (tst (xn allD (aCons (xComp (iIt (xVar 2)) (gN 3) (tTrue) (E2_is_hops) [3]) (aNil))))))) (sRet (xConst (.bool false))) (sNext))
def B_is_hops : SF :=
    sSeq (sIf (tOrF (tNotF (tst (xChain leD leD (xConst (.int 1)) (xn lenD (aCons (xVar 0) (aNil))) (xConst (.int 9))))) (tst (x2 neD2 (xn lenD (aCons (xComp (iIt (xVar 0)) (gN 1) (tst (x2 eqD2 (xn lenD (aCons (x2 ixD (xVar 0) (xVar 1)) (aNil))) (xConst (.int 0)))) (E1_is_hops) [1]) (aNil))) (xConst (.int 1))))) (sRet (xConst (.bool false))) (sNext))
    (sSeq (sFor (iIt (xVar 0)) (gN 1) (Y3_is_hops))
    (sRet (xConst (.bool true))))
def F_is_hops : FD := runB 4 B_is_hops
abbrev st_leads_round : Stmt := topS 6
abbrev N_leads_round : List Str := ["told", "left", "again", "less", "router", "hop"]
abbrev P_leads_round : List Str := ["told"]
theorem S_leads_round : FnScope N_leads_round P_leads_round (defScope st_leads_round) := ⟨rfl, rfl, rfl, by decide +kernel, rfl, by decide +kernel, by decide +kernel⟩
def E1_leads_round : XF :=
    x2 inD2 (xVar 5) (xVar 1)
def E2_leads_round : XF :=
    xVar 4
def Y3_leads_round : SF :=
    sSeq (sSet 3 (xComp (iIt (xVar 1)) (gN 4) (tst (xn anyD (aCons (xComp (iIt (x2 ixD (xVar 0) (xVar 4))) (gN 5) (tTrue) (E1_leads_round) [5]) (aNil)))) (E2_leads_round) [4]))
    (sSeq (sSet 2 (x2 ltD (xn lenD (aCons (xVar 3) (aNil))) (xn lenD (aCons (xVar 1) (aNil)))))
    (sSet 1 (xVar 3)))
def B_leads_round : SF :=
    sSeq (sSet 1 (xn sortedD2 (aCons (xVar 0) (aNil))))
    (sSeq (sSet 2 (xConst (.bool true)))
    (sSeq (whL (tst (xVar 2)) (Y3_leads_round) 200)
    (sRet (x2 gtD (xn lenD (aCons (xVar 1) (aNil))) (xConst (.int 0))))))
def F_leads_round : FD := runB 6 B_leads_round
abbrev st_changing : Stmt := topS 8
abbrev N_changing : List Str := ["old", "new", "router"]
abbrev P_changing : List Str := ["old", "new"]
theorem S_changing : FnScope N_changing P_changing (defScope st_changing) := ⟨rfl, rfl, rfl, by decide +kernel, rfl, by decide +kernel, by decide +kernel⟩
def E1_changing : XF :=
    xVar 2
def B_changing : SF :=
    sRet (xComp (iIt (xn sortedD2 (aCons (xVar 0) (aNil)))) (gN 2) (tst (x2 neD2 (x2 ixD (xVar 0) (xVar 2)) (x2 ixD (xVar 1) (xVar 2)))) (E1_changing) [2])
def F_changing : FD := runB 3 B_changing
abbrev st_mixed : Stmt := topS 9
abbrev N_mixed : List Str := ["old", "new", "done", "now", "found", "router"]
abbrev P_mixed : List Str := ["old", "new", "done", "now"]
theorem S_mixed : FnScope N_mixed P_mixed (defScope st_mixed) := ⟨rfl, rfl, rfl, by decide +kernel, rfl, by decide +kernel, by decide +kernel⟩
def Y1_mixed : SF :=
    sIf (tst (x2 inD2 (xVar 5) (xVar 3))) (sSetK 4 (xSortSetI (xLst (aStar (x2 ixD (xVar 0) (xVar 5)) (aStar (x2 ixD (xVar 1) (xVar 5)) (aNil))))) (xVar 5)) (sSetK 4 (xn listD2 (aCons (xIf (tst (x2 inD2 (xVar 5) (xVar 2))) (x2 ixD (xVar 1) (xVar 5)) (x2 ixD (xVar 0) (xVar 5))) (aNil))) (xVar 5))
def B_mixed : SF :=
    sSeq (sOwn 4 (xConst (.dict [])))
    (sSeq (sFor (iIt (xn sortedD2 (aCons (xVar 0) (aNil)))) (gN 5) (Y1_mixed))
    (sRet (xVar 4)))
def F_mixed : FD := runB 6 B_mixed
abbrev st_subsets : Stmt := topS 14
abbrev N_subsets : List Str := ["things", "found", "one", "_", "told"]
abbrev P_subsets : List Str := ["things"]
theorem S_subsets : FnScope N_subsets P_subsets (defScope st_subsets) := ⟨rfl, rfl, rfl, by decide +kernel, rfl, by decide +kernel, by decide +kernel⟩
def E1_subsets : XF :=
    xLst (aStar (xVar 4) (aCons (xVar 2) (aNil)))
def Y2_subsets : SF :=
    sSet 1 (x2 addD (xVar 1) (xComp (iIt (xVar 1)) (gN 4) (tTrue) (E1_subsets) [4]))
def E3_subsets : XF :=
    xTup (aCons (x1 negD (xn lenD (aCons (xVar 4) (aNil)))) (aCons (xVar 4) (aNil)))
def E4_subsets : XF :=
    xVar 4
def B_subsets : SF :=
    sSeq (sSet 1 (xLst (aCons (xLst (aNil)) (aNil))))
    (sSeq (sFor (iIt (xVar 0)) (gN 2) (Y2_subsets))
    (sRet (xComp (iIt (xn sortedD2 (aCons (xComp (iIt (xVar 1)) (gN 4) (tTrue) (E3_subsets) [4]) (aNil)))) (gT (glCons (gN 3) (glCons (gN 4) (glNil)))) (tTrue) (E4_subsets) [3, 4])))
def F_subsets : FD := runB 5 B_subsets
abbrev st_reached_by : Stmt := topS 17
abbrev N_reached_by : List Str := ["told", "router", "found", "waiting", "here"]
abbrev P_reached_by : List Str := ["told", "router"]
theorem S_reached_by : FnScope N_reached_by P_reached_by (defScope st_reached_by) := ⟨rfl, rfl, rfl, by decide +kernel, rfl, by decide +kernel, by decide +kernel⟩
def Y1_reached_by : SF :=
    sSeq (sSet 4 (xMutL 3 opPop aNil))
    (sIf (tst (x2B ninD2 (xVar 4) 2)) (sSeq (sSetK 2 (xConst (.bool true)) (xVar 4))
    (sDrop (xMutL 3 opExt (aCons (x2 ixD (xVar 0) (xVar 4)) (aNil))))) (sNext))
def B_reached_by : SF :=
    sSeq (sOwn 2 (xConst (.dict [])))
    (sSeq (sOwn 3 (xn listD2 (aCons (x2 ixD (xVar 0) (xVar 1)) (aNil))))
    (sSeq (whL (tst (x2 gtD (xLenB 3) (xConst (.int 0)))) (Y1_reached_by) 200)
    (sRet (xn sortedD2 (aCons (xVar 2) (aNil))))))
def F_reached_by : FD := runB 5 B_reached_by
abbrev st__law_draws : Stmt := topS 20
abbrev N__law_draws : List Str := ["script", "draws", "k", "rest", "turn", "stirred"]
abbrev P__law_draws : List Str := ["script"]
theorem S__law_draws : FnScope N__law_draws P__law_draws (defScope st__law_draws) := ⟨rfl, rfl, rfl, by decide +kernel, rfl, by decide +kernel, by decide +kernel⟩
def Y1__law_draws : SF :=
    sIf (tst (x2 gtD (xVar 3) (xConst (.int 0)))) (sSeq (sDrop (xMutL 1 opApp (aCons (x2 modD (xn intD (aCons (xVar 3) (aNil))) (xConst (.int 65536))) (aNil))))
    (sSet 3 (x2 fdivD (xVar 3) (xConst (.int 65536))))) (sNext)
def Y2__law_draws : SF :=
    sSeq (sSet 3 (xn absD (aCons (xAtS 0 (xVar 2)) (aNil))))
    (sIf (tst (x2 geD (xVar 3) (x2 powD (xConst (.int 10)) (xConst (.int 18))))) (sFor (iArgs rng1 (aCons (xConst (.int 60)) (aNil))) (gN 4) (Y1__law_draws)) (sSeq (sSet 5 (x2 modD (xn intD (aCons (x2 addD (x2 mulD (xVar 3) (xConst (.int 48271))) (x2 mulD (x2 addD (xVar 2) (xConst (.int 1))) (xConst (.int 69621)))) (aNil))) (xConst (.int 2147483647))))
    (sSeq (sSet 5 (x2 modD (xn intD (aCons (x2 addD (x2 addD (x2 mulD (xVar 5) (xConst (.int 16807))) (x2 mulD (xConst (.int 11)) (xVar 2))) (xConst (.int 5))) (aNil))) (xConst (.int 2147483629))))
    (sSeq (sDrop (xMutL 1 opApp (aCons (x2 modD (xn intD (aCons (xVar 5) (aNil))) (xConst (.int 65536))) (aNil))))
    (sDrop (xMutL 1 opApp (aCons (x2 modD (xn intD (aCons (x2 fdivD (xVar 5) (xConst (.int 65536))) (aNil))) (xConst (.int 32768))) (aNil))))))))
def B__law_draws : SF :=
    sSeq (sOwn 1 (xLst (aNil)))
    (sSeq (sFor (iArgs rng1 (aCons (xn min2D (aCons (xConst (.int 63)) (aCons (xLenS 0) (aNil)))) (aNil))) (gN 2) (Y2__law_draws))
    (sRet (xVar 1)))
def F__law_draws : FS := runS 6 B__law_draws
abbrev st__law_mix : Stmt := topS 21
abbrev N__law_mix : List Str := ["draws", "k", "many", "cell"]
abbrev P__law_mix : List Str := ["draws", "k", "many"]
theorem S__law_mix : FnScope N__law_mix P__law_mix (defScope st__law_mix) := ⟨rfl, rfl, rfl, by decide +kernel, rfl, by decide +kernel, by decide +kernel⟩
def B__law_mix : SF :=
    sSeq (sSet 3 (xConst (.int 0)))
    (sSeq (sIf (tst (x2 gtD (xn lenD (aCons (xVar 0) (aNil))) (xConst (.int 0)))) (sSet 3 (x2 ixD (xVar 0) (x2 modD (xn intD (aCons (xVar 1) (aNil))) (xn lenD (aCons (xVar 0) (aNil)))))) (sNext))
    (sSeq (sIf (tst (x2 ltD (xVar 1) (xn lenD (aCons (xVar 0) (aNil))))) (sRet (x2 modD (xn intD (aCons (xVar 3) (aNil))) (xVar 2))) (sNext))
    (sRet (x2 modD (xn intD (aCons (x2 fdivD (xn intD (aCons (x2 addD (x2 mulD (xVar 3) (xConst (.int 7919))) (x2 mulD (xVar 1) (xConst (.int 104729)))) (aNil))) (xConst (.int 3))) (aNil))) (xVar 2)))))
def F__law_mix : FD := runB 4 B__law_mix
abbrev st__law_round : Stmt := topS 23
abbrev N__law_round : List Str := ["told", "left", "turn", "router", "hop"]
abbrev P__law_round : List Str := ["told"]
theorem S__law_round : FnScope N__law_round P__law_round (defScope st__law_round) := ⟨rfl, rfl, rfl, by decide +kernel, rfl, by decide +kernel, by decide +kernel⟩
def E1__law_round : XF :=
    xVar 4
def E2__law_round : XF :=
    xVar 3
def Y3__law_round : SF :=
    sSet 1 (xComp (iIt (xVar 1)) (gN 3) (tst (x2 neD2 (xComp (iIt (x2 ixD (xVar 0) (xVar 3))) (gN 4) (tst (x2 inD2 (xVar 4) (xVar 1))) (E1__law_round) [4]) (xLst (aNil)))) (E2__law_round) [3])
def B__law_round : SF :=
    sSeq (sSet 1 (xn sortedD2 (aCons (xVar 0) (aNil))))
    (sSeq (sFor (iArgs rng1 (aCons (xn lenD (aCons (xVar 0) (aNil))) (aNil))) (gN 2) (Y3__law_round))
    (sRet (x2 neD2 (xVar 1) (xLst (aNil)))))
def F__law_round : FD := runB 5 B__law_round
abbrev st__law_sets : Stmt := topS 25
abbrev N__law_sets : List Str := ["things", "found", "one", "size", "told"]
abbrev P__law_sets : List Str := ["things"]
theorem S__law_sets : FnScope N__law_sets P__law_sets (defScope st__law_sets) := ⟨rfl, rfl, rfl, by decide +kernel, rfl, by decide +kernel, by decide +kernel⟩
def E1__law_sets : XF :=
    x2 addD (xVar 4) (xLst (aCons (xVar 2) (aNil)))
def Y2__law_sets : SF :=
    sSet 1 (x2 addD (xVar 1) (xComp (iIt (xVar 1)) (gN 4) (tTrue) (E1__law_sets) [4]))
def E3__law_sets : XF :=
    xTup (aCons (x1 negD (xn lenD (aCons (xVar 4) (aNil)))) (aCons (xVar 4) (aNil)))
def E4__law_sets : XF :=
    xVar 4
def B__law_sets : SF :=
    sSeq (sSet 1 (xLst (aCons (xLst (aNil)) (aNil))))
    (sSeq (sFor (iIt (xVar 0)) (gN 2) (Y2__law_sets))
    (sRet (xComp (iIt (xn sortedD2 (aCons (xComp (iIt (xVar 1)) (gN 4) (tTrue) (E3__law_sets) [4]) (aNil)))) (gT (glCons (gN 3) (glCons (gN 4) (glNil)))) (tTrue) (E4__law_sets) [3, 4])))
def F__law_sets : FD := runB 5 B__law_sets
abbrev st_check_change : Stmt := topS 7
abbrev N_check_change : List Str := ["old", "new"]
abbrev P_check_change : List Str := ["old", "new"]
theorem S_check_change : FnScope N_check_change P_check_change (defScope st_check_change) := ⟨rfl, rfl, rfl, by decide +kernel, rfl, by decide +kernel, by decide +kernel⟩
def B_check_change : SF :=
    sSeq (sIf (tNotF (tst (xCall 1 F_is_hops (aCons (xVar 0) (aNil))))) (sRaise "BadChange" (xConst (.int 0))) (sNext))
    (sSeq (sIf (tOrF (tNotF (tst (xCall 1 F_is_hops (aCons (xVar 1) (aNil))))) (tst (x2 neD2 (xn sortedD2 (aCons (xVar 1) (aNil))) (xn sortedD2 (aCons (xVar 0) (aNil)))))) (sRaise "BadChange" (xConst (.int 1))) (sNext))
    (sSeq (sIf (tst (xCall 1 F_leads_round (aCons (xVar 0) (aNil)))) (sRaise "BadChange" (xConst (.int 2))) (sNext))
    (sIf (tst (xCall 1 F_leads_round (aCons (xVar 1) (aNil)))) (sRaise "BadChange" (xConst (.int 3))) (sNext))))
def F_check_change : FD := runB 2 B_check_change
abbrev st_is_round_safe : Stmt := topS 10
abbrev N_is_round_safe : List Str := ["old", "new", "done", "now"]
abbrev P_is_round_safe : List Str := ["old", "new", "done", "now"]
theorem S_is_round_safe : FnScope N_is_round_safe P_is_round_safe (defScope st_is_round_safe) := ⟨rfl, rfl, rfl, by decide +kernel, rfl, by decide +kernel, by decide +kernel⟩
def B_is_round_safe : SF :=
    sRet (xBool (tNotF (tst (xCall 1 F_leads_round (aCons (xCall 4 F_mixed (aCons (xVar 0) (aCons (xVar 1) (aCons (xVar 2) (aCons (xVar 3) (aNil)))))) (aNil))))))
def F_is_round_safe : FD := runB 4 B_is_round_safe
abbrev st__law_hops : Stmt := topS 22
abbrev N__law_hops : List Str := ["draws", "first", "many", "order", "router", "found", "k", "some", "t"]
abbrev P__law_hops : List Str := ["draws", "first", "many"]
theorem S__law_hops : FnScope N__law_hops P__law_hops (defScope st__law_hops) := ⟨rfl, rfl, rfl, by decide +kernel, rfl, by decide +kernel, by decide +kernel⟩
def Y1__law_hops : SF :=
    sDrop (xMutL 3 opIns (aCons (xCall 3 F__law_mix (aCons (xVar 0) (aCons (x2 addD (xVar 1) (xVar 4)) (aCons (x2 addD (xLenB 3) (xConst (.int 1))) (aNil))))) (aCons (xVar 4) (aNil))))
def E2__law_hops : XF :=
    xIxB 3 (xCall 3 F__law_mix (aCons (xVar 0) (aCons (x2 addD (x2 addD (x2 addD (xVar 1) (xConst (.int 10))) (x2 mulD (xConst (.int 3)) (xVar 6))) (xVar 8)) (aCons (xVar 6) (aNil)))))
def Y3__law_hops : SF :=
    sSeq (sSet 7 (xLst (aNil)))
    (sSeq (sIf (tst (x2 gtD (xVar 6) (xConst (.int 0)))) (sSet 7 (xComp (iArgs rng1 (aCons (x2 addD (xConst (.int 1)) (xCall 3 F__law_mix (aCons (xVar 0) (aCons (x2 addD (x2 addD (xVar 1) (xConst (.int 12))) (x2 mulD (xConst (.int 3)) (xVar 6))) (aCons (xConst (.int 2)) (aNil)))))) (aNil))) (gN 8) (tTrue) (E2__law_hops) [8])) (sNext))
    (sSetK 5 (xSortSetI (xVar 7)) (xIxB 3 (xVar 6))))
def E4__law_hops : XF :=
    xTup (aCons (xVar 4) (aCons (xIxB 5 (xVar 4)) (aNil)))
def B__law_hops : SF :=
    sSeq (sOwn 3 (xLst (aNil)))
    (sSeq (sFor (iArgs rng1 (aCons (xVar 2) (aNil))) (gN 4) (Y1__law_hops))
    (sSeq (sOwn 5 (xConst (.dict [])))
    (sSeq (sFor (iArgs rng1 (aCons (xVar 2) (aNil))) (gN 6) (Y3__law_hops))
    (sRet (xn dictD (aCons (xComp (iIt (xn sortedD2 (aCons (xVar 5) (aNil)))) (gN 4) (tTrue) (E4__law_hops) [4]) (aNil)))))))
def F__law_hops : FD := runB 9 B__law_hops
abbrev st__law_safe : Stmt := topS 24
abbrev N__law_safe : List Str := ["old", "new", "done", "now", "told", "router"]
abbrev P__law_safe : List Str := ["old", "new", "done", "now"]
theorem S__law_safe : FnScope N__law_safe P__law_safe (defScope st__law_safe) := ⟨rfl, rfl, rfl, by decide +kernel, rfl, by decide +kernel, by decide +kernel⟩
def Y1__law_safe : SF :=
    sIf (tst (x2 inD2 (xVar 5) (xVar 3))) (sSetK 4 (xSortSetI (x2 addD (x2 ixD (xVar 0) (xVar 5)) (x2 ixD (xVar 1) (xVar 5)))) (xVar 5)) (sSetK 4 (x2 ixD (xLst (aCons (x2 ixD (xVar 0) (xVar 5)) (aCons (x2 ixD (xVar 1) (xVar 5)) (aNil)))) (xn intD (aCons (x2 inD2 (xVar 5) (xVar 2)) (aNil)))) (xVar 5))
def B__law_safe : SF :=
    sSeq (sOwn 4 (xConst (.dict [])))
    (sSeq (sFor (iIt (xVar 0)) (gN 5) (Y1__law_safe))
    (sRet (xBool (tNotF (tst (xCall 1 F__law_round (aCons (xVar 4) (aNil))))))))
def F__law_safe : FD := runB 6 B__law_safe
abbrev st_is_safe : Stmt := topS 11
abbrev N_is_safe : List Str := ["old", "new", "done", "now"]
abbrev P_is_safe : List Str := ["old", "new", "done", "now"]
theorem S_is_safe : FnScope N_is_safe P_is_safe (defScope st_is_safe) := ⟨rfl, rfl, rfl, by decide +kernel, rfl, by decide +kernel, by decide +kernel⟩
def B_is_safe : SF :=
    sSeq (sDrop (xCall 2 F_check_change (aCons (xVar 0) (aCons (xVar 1) (aNil)))))
    (sRet (xCall 4 F_is_round_safe (aCons (xVar 0) (aCons (xVar 1) (aCons (xVar 2) (aCons (xVar 3) (aNil)))))))
def F_is_safe : FD := runB 4 B_is_safe
abbrev st_hops_at : Stmt := topS 12
abbrev N_hops_at : List Str := ["old", "new", "done"]
abbrev P_hops_at : List Str := ["old", "new", "done"]
theorem S_hops_at : FnScope N_hops_at P_hops_at (defScope st_hops_at) := ⟨rfl, rfl, rfl, by decide +kernel, rfl, by decide +kernel, by decide +kernel⟩
def B_hops_at : SF :=
    sSeq (sDrop (xCall 2 F_check_change (aCons (xVar 0) (aCons (xVar 1) (aNil)))))
    (sRet (xCall 4 F_mixed (aCons (xVar 0) (aCons (xVar 1) (aCons (xVar 2) (aCons (xLst (aNil)) (aNil)))))))
def F_hops_at : FD := runB 3 B_hops_at
abbrev st_are_rounds : Stmt := topS 13
abbrev N_are_rounds : List Str := ["old", "new", "rounds", "done", "now"]
abbrev P_are_rounds : List Str := ["old", "new", "rounds"]
theorem S_are_rounds : FnScope N_are_rounds P_are_rounds (defScope st_are_rounds) := ⟨rfl, rfl, rfl, by decide +kernel, rfl, by decide +kernel, by decide +kernel⟩
def Y1_are_rounds : SF :=
    sSeq (sIf (tOrF (tst (x2 eqD2 (xn lenD (aCons (xVar 4) (aNil))) (xConst (.int 0)))) (tOrF (tst (x2 neD2 (xn listD2 (aCons (xVar 4) (aNil))) (xSortSetI (xVar 4)))) (tNotF (tst (xCall 4 F_is_round_safe (aCons (xVar 0) (aCons (xVar 1) (aCons (xVar 3) (aCons (xVar 4) (aNil)))))))))) (sRet (xConst (.bool false))) (sNext))
    (sSet 3 (x2 addD (xVar 3) (xn listD2 (aCons (xVar 4) (aNil)))))
def B_are_rounds : SF :=
    sSeq (sDrop (xCall 2 F_check_change (aCons (xVar 0) (aCons (xVar 1) (aNil)))))
    (sSeq (sSet 3 (xLst (aNil)))
    (sSeq (sFor (iIt (xVar 2)) (gN 4) (Y1_are_rounds))
    (sRet (x2 eqD2 (xn sortedD2 (aCons (xVar 3) (aNil))) (xCall 2 F_changing (aCons (xVar 0) (aCons (xVar 1) (aNil))))))))
def F_are_rounds : FD := runB 5 B_are_rounds
abbrev st_one_by_one : Stmt := topS 18
abbrev N_one_by_one : List Str := ["old", "new", "left", "found", "ready", "router", "other"]
abbrev P_one_by_one : List Str := ["old", "new"]
theorem S_one_by_one : FnScope N_one_by_one P_one_by_one (defScope st_one_by_one) := ⟨rfl, rfl, rfl, by decide +kernel, rfl, by decide +kernel, by decide +kernel⟩
def E1_one_by_one : XF :=
    x2 inD2 (xVar 6) (xVar 2)
def E2_one_by_one : XF :=
    xVar 5
def E3_one_by_one : XF :=
    xVar 5
def Y4_one_by_one : SF :=
    sSeq (sSet 4 (xComp (iIt (xVar 2)) (gN 5) (tNotF (tst (xn anyD (aCons (xComp (iIt (xCall 2 F_reached_by (aCons (xVar 1) (aCons (xVar 5) (aNil))))) (gN 6) (tTrue) (E1_one_by_one) [6]) (aNil))))) (E2_one_by_one) [5]))
    (sSeq (sDrop (xMutL 3 opApp (aCons (xLst (aCons (x2 ixD (xVar 4) (xConst (.int 0))) (aNil))) (aNil))))
    (sSet 2 (xComp (iIt (xVar 2)) (gN 5) (tst (x2 neD2 (xVar 5) (x2 ixD (xVar 4) (xConst (.int 0))))) (E3_one_by_one) [5])))
def B_one_by_one : SF :=
    sSeq (sDrop (xCall 2 F_check_change (aCons (xVar 0) (aCons (xVar 1) (aNil)))))
    (sSeq (sSet 2 (xCall 2 F_changing (aCons (xVar 0) (aCons (xVar 1) (aNil)))))
    (sSeq (sOwn 3 (xLst (aNil)))
    (sSeq (whL (tst (x2 gtD (xn lenD (aCons (xVar 2) (aNil))) (xConst (.int 0)))) (Y4_one_by_one) 200)
    (sRet (xVar 3)))))
def F_one_by_one : FD := runB 7 B_one_by_one
abbrev st_least_from : Stmt := topS 15
abbrev N_least_from : List Str := ["old", "new", "done", "known", "left", "best", "now", "router", "rest"]
abbrev P_least_from : List Str := ["old", "new", "done", "known"]
theorem S_least_from : FnScope N_least_from P_least_from (defScope st_least_from) := ⟨rfl, rfl, rfl, by decide +kernel, rfl, by decide +kernel, by decide +kernel⟩
def E1_least_from (R : FIO) : XF :=
    xVar 7
def Y2_least_from (R : FIO) : SF :=
    sIf (tAndF (tst (x2 gtD (xn lenD (aCons (xVar 6) (aNil))) (xConst (.int 0)))) (tst (xCall 4 F_is_round_safe (aCons (xVar 0) (aCons (xVar 1) (aCons (xn listD2 (aCons (xVar 2) (aNil))) (aCons (xVar 6) (aNil)))))))) (sSeq (sSet 8 (xCallIO 3 R 3 (aCons (xVar 0) (aCons (xVar 1) (aCons (xn tupleD (aCons (xn sortedD2 (aCons (xLst (aStar (xVar 2) (aStar (xVar 6) (aNil)))) (aNil))) (aNil))) (aNil))))))
    (sIf (tOrF (tst (x1 isN (xVar 5))) (tst (x2 ltD (x2 addD (xn lenD (aCons (xVar 8) (aNil))) (xConst (.int 1))) (xn lenD (aCons (xVar 5) (aNil)))))) (sSet 5 (xLst (aCons (xVar 6) (aStar (xVar 8) (aNil))))) (sNext))) (sNext)
def B_least_from (R : FIO) : SF :=
    sSeq (sIf (tst (x2B ninD2 (xVar 2) 3)) (sSeq (sSet 4 (xComp (iIt (xCall 2 F_changing (aCons (xVar 0) (aCons (xVar 1) (aNil))))) (gN 7) (tst (x2 ninD2 (xVar 7) (xVar 2))) (E1_least_from R) [7]))
    (sSeq (sSet 5 (xIf (tst (x2 eqD2 (xn lenD (aCons (xVar 4) (aNil))) (xConst (.int 0)))) (xLst (aNil)) (xConst .none)))
    (sSeq (sFor (iIt (xIf (tst (x2 gtD (xn lenD (aCons (xVar 4) (aNil))) (xConst (.int 0)))) (xCall 1 F_subsets (aCons (xVar 4) (aNil))) (xLst (aNil)))) (gN 6) (Y2_least_from R))
    (sSetK 3 (xVar 5) (xVar 2))))) (sNext))
    (sRet (xIxB 3 (xVar 2)))
def F_least_from : Nat → FIO
  | 0 => fun _ _ => .bad
  | m + 1 => runIO 9 3 (B_least_from (F_least_from m))
abbrev st__law_fewest : Stmt := topS 26
abbrev N__law_fewest : List Str := ["old", "new", "done", "known", "key", "left", "best", "now", "router", "rest_there"]
abbrev P__law_fewest : List Str := ["old", "new", "done", "known"]
theorem S__law_fewest : FnScope N__law_fewest P__law_fewest (defScope st__law_fewest) := ⟨rfl, rfl, rfl, by decide +kernel, rfl, by decide +kernel, by decide +kernel⟩
def E1__law_fewest (R : FIO) : XF :=
    xVar 8
def Y2__law_fewest (R : FIO) : SF :=
    sIf (tAndF (tst (x2 neD2 (xVar 7) (xLst (aNil)))) (tst (xCall 4 F__law_safe (aCons (xVar 0) (aCons (xVar 1) (aCons (xVar 2) (aCons (xVar 7) (aNil)))))))) (sSeq (sSet 9 (xCallIO 3 R 3 (aCons (xVar 0) (aCons (xVar 1) (aCons (x2 addD (xVar 2) (xVar 7)) (aNil))))))
    (sIf (tOrF (tst (x1 isN (xVar 6))) (tst (x2 ltD (x2 addD (xVar 9) (xConst (.int 1))) (xVar 6)))) (sSet 6 (x2 addD (xVar 9) (xConst (.int 1)))) (sNext))) (sNext)
def B__law_fewest (R : FIO) : SF :=
    sSeq (sSet 4 (xn tupleD (aCons (xn sortedD2 (aCons (xVar 2) (aNil))) (aNil))))
    (sSeq (sIf (tst (x2B ninD2 (xVar 4) 3)) (sSeq (sSet 5 (xComp (iIt (xn sortedD2 (aCons (xVar 0) (aNil)))) (gN 8) (tAndF (tst (x2 neD2 (x2 ixD (xVar 0) (xVar 8)) (x2 ixD (xVar 1) (xVar 8)))) (tst (x2 ninD2 (xVar 8) (xVar 2)))) (E1__law_fewest R) [8]))
    (sSeq (sSet 6 (x2 ixD (xLst (aCons (xConst (.int 0)) (aCons (xConst .none) (aNil)))) (xn intD (aCons (x2 neD2 (xVar 5) (xLst (aNil))) (aNil)))))
    (sSeq (sFor (iIt (xCall 1 F__law_sets (aCons (xVar 5) (aNil)))) (gN 7) (Y2__law_fewest R))
    (sSetK 3 (xVar 6) (xVar 4))))) (sNext))
    (sRet (xIxB 3 (xVar 4))))
def F__law_fewest : Nat → FIO
  | 0 => fun _ _ => .bad
  | m + 1 => runIO 10 3 (B__law_fewest (F__law_fewest m))
abbrev st_least_rounds : Stmt := topS 16
abbrev N_least_rounds : List Str := ["old", "new", "now"]
abbrev P_least_rounds : List Str := ["old", "new"]
theorem S_least_rounds : FnScope N_least_rounds P_least_rounds (defScope st_least_rounds) := ⟨rfl, rfl, rfl, by decide +kernel, rfl, by decide +kernel, by decide +kernel⟩
def E1_least_rounds : XF :=
    xn listD2 (aCons (xVar 2) (aNil))
def B_least_rounds : SF :=
    sSeq (sDrop (xCall 2 F_check_change (aCons (xVar 0) (aCons (xVar 1) (aNil)))))
    (sRet (xComp (iIt (xCallION 3 (F_least_from 9) (aCons (xVar 0) (aCons (xVar 1) (aCons (xTup (aNil)) (aNil)))) (xConst (.dict [])))) (gN 2) (tTrue) (E1_least_rounds) [2]))
def F_least_rounds : FD := runB 3 B_least_rounds
abbrev st__law_least : Stmt := topS 27
abbrev N__law_least : List Str := ["old", "new", "known", "done", "found", "left", "good", "router", "now"]
abbrev P__law_least : List Str := ["old", "new", "known"]
theorem S__law_least : FnScope N__law_least P__law_least (defScope st__law_least) := ⟨rfl, rfl, rfl, by decide +kernel, rfl, by decide +kernel, by decide +kernel⟩
def E1__law_least : XF :=
    xVar 7
def E2__law_least : XF :=
    xVar 8
def Y3__law_least : SF :=
    sSeq (sSet 5 (xComp (iIt (xn sortedD2 (aCons (xVar 0) (aNil)))) (gN 7) (tAndF (tst (x2 neD2 (x2 ixD (xVar 0) (xVar 7)) (x2 ixD (xVar 1) (xVar 7)))) (tst (x2 ninD2 (xVar 7) (xVar 3)))) (E1__law_least) [7]))
    (sSeq (sSet 6 (xComp (iIt (xCall 1 F__law_sets (aCons (xVar 5) (aNil)))) (gN 8) (tAndF (tst (x2 neD2 (xVar 8) (xLst (aNil)))) (tAndF (tst (xCall 4 F__law_safe (aCons (xVar 0) (aCons (xVar 1) (aCons (xVar 3) (aCons (xVar 8) (aNil))))))) (tst (x2 eqD2 (xCallIO 3 (F__law_fewest 9) 2 (aCons (xVar 0) (aCons (xVar 1) (aCons (x2 addD (xVar 3) (xVar 8)) (aNil))))) (x2 subD (xCallIO 3 (F__law_fewest 9) 2 (aCons (xVar 0) (aCons (xVar 1) (aCons (xVar 3) (aNil))))) (xConst (.int 1))))))) (E2__law_least) [8]))
    (sSeq (sDrop (xMutL 4 opApp (aCons (x2 ixD (xVar 6) (xConst (.int 0))) (aNil))))
    (sSet 3 (x2 addD (xVar 3) (x2 ixD (xVar 6) (xConst (.int 0)))))))
def B__law_least : SF :=
    sSeq (sSet 3 (xLst (aNil)))
    (sSeq (sOwn 4 (xLst (aNil)))
    (sSeq (whL (tst (x2 gtD (xCallIO 3 (F__law_fewest 9) 2 (aCons (xVar 0) (aCons (xVar 1) (aCons (xVar 3) (aNil))))) (xConst (.int 0)))) (Y3__law_least) 200)
    (sRet (xVar 4))))
def F__law_least : FIO := runIO 9 2 B__law_least
abbrev st__law_fault : Stmt := topS 28
abbrev N__law_fault : List Str := ["way", "old", "new", "e"]
abbrev P__law_fault : List Str := ["way", "old", "new"]
theorem S__law_fault : FnScope N__law_fault P__law_fault (defScope st__law_fault) := ⟨rfl, rfl, rfl, by decide +kernel, rfl, by decide +kernel, by decide +kernel⟩
def B__law_fault : SF :=
    sSeq (sTry (sIf (tst (x2 eqD2 (xVar 0) (xConst (.int 0)))) (sDrop (xCall 2 F_check_change (aCons (xVar 1) (aCons (xVar 2) (aNil))))) (sIf (tst (x2 eqD2 (xVar 0) (xConst (.int 1)))) (sDrop (xCall 4 F_is_safe (aCons (xVar 1) (aCons (xVar 2) (aCons (xLst (aNil)) (aCons (xLst (aNil)) (aNil))))))) (sIf (tst (x2 eqD2 (xVar 0) (xConst (.int 2)))) (sDrop (xCall 3 F_are_rounds (aCons (xVar 1) (aCons (xVar 2) (aCons (xLst (aNil)) (aNil)))))) (sIf (tst (x2 eqD2 (xVar 0) (xConst (.int 3)))) (sDrop (xCall 3 F_hops_at (aCons (xVar 1) (aCons (xVar 2) (aCons (xLst (aNil)) (aNil)))))) (sDrop (xCallFs ((2, F_least_rounds) :: (2, F_one_by_one) :: []) (x2 subD (xVar 0) (xConst (.int 4))) (aCons (xVar 1) (aCons (xVar 2) (aNil))))))))) (⟨3, ["BadChange"], [], fun d => d⟩ :: []))
    (sRet (xConst .none))
def F__law_fault : FD := runB 4 B__law_fault
abbrev st_law : Stmt := topS 29
abbrev N_law : List Str := ["script", "draws", "many", "old", "new", "kept", "rows", "done", "now", "single", "changed", "t", "good", "bad", "way", "some", "more", "router", "one"]
abbrev P_law : List Str := ["script"]
theorem S_law : FnScope N_law P_law (defScope st_law) := ⟨rfl, rfl, rfl, by decide +kernel, rfl, by decide +kernel, by decide +kernel⟩
def E1_law : XF :=
    xTup (aCons (xVar 18) (aCons (x2 ixD (xLst (aCons (x2 ixD (xVar 3) (xVar 18)) (aCons (x2 ixD (xVar 4) (xVar 18)) (aNil)))) (xn intD (aCons (x2 inD2 (xVar 18) (x2 addD (xVar 7) (xVar 15))) (aNil)))) (aNil)))
def Y2_law : SF :=
    sIf (tOrF (tst (xCall 1 F__law_round (aCons (xCall 3 F_hops_at (aCons (xVar 3) (aCons (xVar 4) (aCons (x2 addD (xVar 7) (xVar 15)) (aNil))))) (aNil)))) (tst (x2 neD2 (xCall 3 F_hops_at (aCons (xVar 3) (aCons (xVar 4) (aCons (x2 addD (xVar 7) (xVar 15)) (aNil))))) (xn dictD (aCons (xComp (iIt (xVar 3)) (gN 18) (tTrue) (E1_law) [18]) (aNil)))))) (sRet (xConst (.bool false))) (sNext)
def Y3_law : SF :=
    sSeq (sFor (iIt (xCall 1 F__law_sets (aCons (xVar 8) (aNil)))) (gN 15) (Y2_law))
    (sSet 7 (x2 addD (xVar 7) (xVar 8)))
def E4_law : XF :=
    xVar 17
def E5_law : XF :=
    x2 ixD (xVar 8) (xConst (.int 0))
def E6_law : XF :=
    xVar 8
def E7_law : XF :=
    xVar 17
def E8_law : XF :=
    xVar 17
def Y9_law : SF :=
    sSeq (sSet 15 (xComp (iIt (xn sortedD2 (aCons (xVar 3) (aNil)))) (gN 17) (tst (x2 eqD2 (xCall 3 F__law_mix (aCons (xVar 1) (aCons (x2 addD (x2 addD (xConst (.int 120)) (x2 mulD (xConst (.int 10)) (xVar 11))) (xVar 17)) (aCons (xConst (.int 3)) (aNil))))) (xConst (.int 0)))) (E7_law) [17]))
    (sSeq (sSet 16 (xComp (iIt (xn sortedD2 (aCons (xVar 3) (aNil)))) (gN 17) (tAndF (tst (x2 ninD2 (xVar 17) (xVar 15))) (tst (x2 eqD2 (xCall 3 F__law_mix (aCons (xVar 1) (aCons (x2 addD (x2 addD (xConst (.int 160)) (x2 mulD (xConst (.int 10)) (xVar 11))) (xVar 17)) (aCons (xConst (.int 2)) (aNil))))) (xConst (.int 0))))) (E8_law) [17]))
    (sIf (tst (x2 neD2 (xn reprD2 (aCons (xCall 4 F_is_safe (aCons (xVar 3) (aCons (xVar 4) (aCons (xVar 15) (aCons (xVar 16) (aNil)))))) (aNil))) (xn reprD2 (aCons (xCall 4 F__law_safe (aCons (xVar 3) (aCons (xVar 4) (aCons (xVar 15) (aCons (xVar 16) (aNil)))))) (aNil))))) (sRet (xConst (.bool false))) (sNext)))
def Y10_law : SF :=
    sIf (tOrF (tst (x2 neD2 (xCall 3 F__law_fault (aCons (xVar 14) (aCons (xVar 13) (aCons (xDict (kCons (xConst (.int 0)) (xLst (aCons (xConst (.int 0)) (aNil))) (kNil))) (aNil))))) (xConst (.int 0)))) (tst (x2 neD2 (xCall 3 F__law_fault (aCons (xVar 14) (aCons (xVar 12) (aCons (xVar 13) (aNil))))) (xConst (.int 1))))) (sRet (xConst (.bool false))) (sNext)
def Y11_law : SF :=
    sFor (iArgs rng1 (aCons (xConst (.int 6)) (aNil))) (gN 14) (Y10_law)
def Y12_law : SF :=
    sIf (tOrF (tst (x2 neD2 (xCall 3 F__law_fault (aCons (xVar 14) (aCons (xDict (kCons (xConst (.int 0)) (xLst (aNil)) (kCons (xConst (.int 1)) (xLst (aCons (xConst (.int 2)) (aNil))) (kCons (xConst (.int 2)) (xLst (aCons (xConst (.int 1)) (aNil))) (kNil))))) (aCons (xVar 12) (aNil))))) (xConst (.int 2)))) (tOrF (tst (x2 neD2 (xCall 3 F__law_fault (aCons (xVar 14) (aCons (xVar 12) (aCons (xDict (kCons (xConst (.int 0)) (xLst (aNil)) (kCons (xConst (.int 1)) (xLst (aCons (xConst (.int 2)) (aNil))) (kCons (xConst (.int 2)) (xLst (aCons (xConst (.int 1)) (aNil))) (kNil))))) (aNil))))) (xConst (.int 3)))) (tst (x2 neD2 (xCall 3 F__law_fault (aCons (xVar 14) (aCons (xVar 12) (aCons (xDict (kCons (xConst (.int 0)) (xLst (aNil)) (kCons (xConst (.int 1)) (xLst (aCons (xConst (.int 0)) (aNil))) (kNil)))) (aNil))))) (xConst (.int 1)))))) (sRet (xConst (.bool false))) (sNext)
def B_law : SF :=
    sSeq (sSet 1 (xCallS 0 F__law_draws))
    (sSeq (sSet 2 (x2 addD (xConst (.int 1)) (xCall 3 F__law_mix (aCons (xVar 1) (aCons (xConst (.int 0)) (aCons (xConst (.int 6)) (aNil)))))))
    (sSeq (sSet 3 (xCall 3 F__law_hops (aCons (xVar 1) (aCons (xConst (.int 10)) (aCons (xVar 2) (aNil))))))
    (sSeq (sSet 4 (xCall 3 F__law_hops (aCons (xVar 1) (aCons (xConst (.int 60)) (aCons (xVar 2) (aNil))))))
    (sSeq (sSet 5 (xn reprD2 (aCons (xTup (aCons (xVar 3) (aCons (xVar 4) (aNil)))) (aNil))))
    (sSeq (sSet 6 (xCall 2 F_least_rounds (aCons (xVar 3) (aCons (xVar 4) (aNil)))))
    (sSeq (sIf (tOrF (tst (x2 neD2 (xn reprD2 (aCons (xVar 6) (aNil))) (xn reprD2 (aCons (xCallION 2 (F__law_least) (aCons (xVar 3) (aCons (xVar 4) (aNil))) (xConst (.dict []))) (aNil))))) (tOrF (tst (x2 isntBD (xCall 3 F_are_rounds (aCons (xVar 3) (aCons (xVar 4) (aCons (xVar 6) (aNil))))) (xConst (.bool true)))) (tst (x1 notN (xCall 2 F_check_change (aCons (xVar 3) (aCons (xVar 4) (aNil)))))))) (sRet (xConst (.bool false))) (sNext))
    (sSeq (sSet 7 (xLst (aNil)))
    (sSeq (sFor (iIt (xVar 6)) (gN 8) (Y3_law))
    (sSeq (sSet 9 (xCall 2 F_one_by_one (aCons (xVar 3) (aCons (xVar 4) (aNil)))))
    (sSeq (sSet 10 (xComp (iIt (xn sortedD2 (aCons (xVar 3) (aNil)))) (gN 17) (tst (x2 neD2 (x2 ixD (xVar 3) (xVar 17)) (x2 ixD (xVar 4) (xVar 17)))) (E4_law) [17]))
    (sSeq (sIf (tOrF (tst (x2 isntBD (xCall 3 F_are_rounds (aCons (xVar 3) (aCons (xVar 4) (aCons (xVar 9) (aNil))))) (xConst (.bool true)))) (tOrF (tst (x2 neD2 (xn sortedD2 (aCons (xComp (iIt (xVar 9)) (gN 8) (tTrue) (E5_law) [8]) (aNil))) (xVar 10))) (tst (x2 neD2 (xComp (iIt (xVar 9)) (gN 8) (tst (x2 neD2 (xn lenD (aCons (xVar 8) (aNil))) (xConst (.int 1)))) (E6_law) [8]) (xLst (aNil)))))) (sRet (xConst (.bool false))) (sNext))
    (sSeq (sFor (iArgs rng1 (aCons (xConst (.int 4)) (aNil))) (gN 11) (Y9_law))
    (sSeq (sIf (tAndF (tst (x2 neD2 (xVar 10) (xLst (aNil)))) (tOrF (tst (x2 neD2 (xCall 3 F_are_rounds (aCons (xVar 3) (aCons (xVar 4) (aCons (xLst (aCons (xVar 10) (aNil))) (aNil))))) (xCall 4 F__law_safe (aCons (xVar 3) (aCons (xVar 4) (aCons (xLst (aNil)) (aCons (xVar 10) (aNil)))))))) (tOrF (tst (xCall 3 F_are_rounds (aCons (xVar 3) (aCons (xVar 4) (aCons (x2 addD (xVar 6) (xLst (aCons (xVar 10) (aNil)))) (aNil)))))) (tst (xCall 3 F_are_rounds (aCons (xVar 3) (aCons (xVar 4) (aCons (xSl (xVar 6) (pNo) (pAt (x1 negD (xConst (.int 1))))) (aNil))))))))) (sRet (xConst (.bool false))) (sNext))
    (sSeq (sSet 12 (xDict (kCons (xConst (.int 0)) (xLst (aNil)) (kCons (xConst (.int 1)) (xLst (aCons (xConst (.int 0)) (aNil))) (kCons (xConst (.int 2)) (xLst (aCons (xConst (.int 0)) (aNil))) (kNil))))))
    (sSeq (sFor (iIt (xLst (aCons (xConst (.dict [])) (aCons (xDict (kCons (xConst (.int 0)) (xLst (aCons (xConst (.int 0)) (aNil))) (kNil))) (aCons (xDict (kCons (xConst (.int 0)) (xLst (aNil)) (kCons (xConst (.int 1)) (xLst (aNil)) (kNil)))) (aCons (xDict (kCons (xConst (.int 0)) (xLst (aNil)) (kCons (xConst (.int 1)) (xLst (aCons (xConst (.int 1)) (aNil))) (kNil)))) (aCons (xDict (kCons (xConst (.int 0)) (xLst (aNil)) (kCons (xConst (.int 1)) (xLst (aCons (xConst (.int 2)) (aNil))) (kNil)))) (aCons (xDict (kCons (xConst (.int 0)) (xLst (aNil)) (kCons (xConst (.int 1)) (xLst (aCons (xConst (.int 0)) (aNil))) (kCons (xConst (.int 2)) (xLst (aCons (xConst (.int 1)) (aCons (xConst (.int 0)) (aNil)))) (kNil))))) (aNil))))))))) (gN 13) (Y11_law))
    (sSeq (sFor (iArgs rng1 (aCons (xConst (.int 6)) (aNil))) (gN 14) (Y12_law))
    (sRet (xBool (tAndF (tst (x2 eqD2 (xn reprD2 (aCons (xTup (aCons (xVar 3) (aCons (xVar 4) (aNil)))) (aNil))) (xVar 5))) (tAndF (tst (x2 eqD2 (xCall 2 F_least_rounds (aCons (xVar 12) (aCons (xVar 12) (aNil)))) (xLst (aNil)))) (tst (x2 eqD2 (xCall 2 F_one_by_one (aCons (xVar 12) (aCons (xVar 12) (aNil)))) (xLst (aNil))))))))))))))))))))))))
def F_law : FS := runS 19 B_law
structure Zs (K : PySem.W.Frag) (mg : Str → Option Value) : Prop where
  z_len : mg "len" = none
  z_list : mg "list" = none
  z_sorted : mg "sorted" = none
  z_set : mg "set" = none
  z_all : mg "all" = none
  z_any : mg "any" = none
  z_min : mg "min" = none
  z_range : mg "range" = none
  z_abs : mg "abs" = none
  z_int : mg "int" = none
  z_dict : mg "dict" = none
  z_tuple : mg "tuple" = none
  z_repr : mg "repr" = none
  m_MOST_ROUTERS : ∃ t, mg "MOST_ROUTERS" = some (.int 9 t)
structure Es (P : Program) (K : PySem.W.Frag) (mg : Str → Option Value) (B f : Addr) : Prop where
  net : NetB P K mg B f
  c_BadChange : ∃ C, mg "BadChange" = some (.ref C) ∧ NetC K B f C
  x_BadChange_BadChange : ∀ D, mg "BadChange" = some (.ref D) → ∃ C, mg "BadChange" = some (.ref C) ∧ NetC K B f C ∧ PySem.W.exmOne K (.ref C) (.ref D) = some true
section
variable {P : Program} {w : World} {K : PySem.W.Frag} {mg : Str → Option Value} {base : Heap} {Bn fn : Addr}
theorem ok_is_hops (Z : Zs K mg) (Er : Es P K mg Bn fn)  {f : Addr} {fd : FuncData} (Fn : Fun K "is_hops" "is_hops" st_is_hops f fd) (hm : mg "is_hops" = some (.ref f)) (hb : Binds K fd P_is_hops []) : Def0 P w K mg base 1 "is_hops" P_is_hops F_is_hops :=
  ⟨f, fd, fnG_pure Fn S_is_hops (fun ds _ => rfl) (fun cdv A outer s H E hr hq =>
    have hu := hr.units
    es_seq (es_if (et_bool (ew_or (et_not (et_chain (op_leD hu) (op_leD hu) (ex_int) (ex_blt cr_lenD rfl Z.z_len rfl (ea_cons (ex_var (pv 0)) (ea_nil))) ((by obtain ⟨t, ht⟩ := Z.m_MOST_ROUTERS; exact ex_globI rfl ht)))) (ew_or1 (et_cmp (op_neD2 hu) (ex_blt cr_lenD rfl Z.z_len rfl (ea_cons (EN.ex (en_comp rfl S_is_hops.nd (own := [("router", 1)]) (ei_it (ex_var (pv 0))) (blkOk_by (own := [("router", 1)]) (N := N_is_hops) (sc := defScope st_is_hops) (by decide +kernel)) (us := [1]) (by decide) (fun _ _ _ _ _ => eg_name (i := 1) S_is_hops.nd rfl (by first | exact .inl rfl | exact .inr rfl)) (fun _ _ _ _ _ => eq_one (et_cmp (op_eqD2 hu) (ex_blt cr_lenD rfl Z.z_len rfl (ea_cons (ex_ix hu (ex_var (pv 0)) (ex_var (pv 1)) (fun _ _ => rfl)) (ea_nil))) (ex_int))) (fun _ _ _ _ _ => ex_var (pv 1)))) (ea_nil))) (ex_int))))) (es_one (es_ret (ex_bl))) (es_nil))
      (es_seq (es_for (vs := [1]) PassesOwn.leaving rfl (ei_it (ex_var (pv 0))) (eg_name (i := 1) S_is_hops.nd rfl (by first | exact .inl rfl | exact .inr rfl)) (es_seq (es_set (i := 2) S_is_hops.nd rfl (by first | exact .inl rfl | exact .inr rfl) (ex_ix hu (ex_var (pv 0)) (ex_var (pv 1)) (fun _ _ => rfl)))
      (es_one (es_if (et_bool (ew_or (et_cmp (op_neD2 hu) (EN.ex (en_bty (cr_listD2 rfl) rfl Z.z_list rfl (ea_cons (ex_var (pv 2)) (ea_nil)))) (EN.ex (en_sortSetI rfl rfl Z.z_sorted rfl Z.z_set (ex_var (pv 2))))) (ew_or (et_cmp (op_inD2 hu) (ex_var (pv 1)) (ex_var (pv 2))) (ew_or1 (et_not (et_val (ex_blt (cr_allD rfl) rfl Z.z_all rfl (ea_cons (EN.ex (en_comp rfl S_is_hops.nd (own := [("hop", 3)]) (ei_it (ex_var (pv 2))) (blkOk_by (own := [("hop", 3)]) (N := N_is_hops) (sc := defScope st_is_hops) (by decide +kernel)) (us := [3]) (by decide) (fun _ _ _ _ _ => eg_name (i := 3) S_is_hops.nd rfl (by first | exact .inl rfl | exact .inr rfl)) (fun _ _ _ _ _ => eq_nil) (fun _ _ _ _ _ => ex_cmp (op_inD2 hu) (ex_var (pv 3)) (ex_var (pv 0))))) (ea_nil))))))))) (es_one (es_ret (ex_bl))) (es_nil)))))
      (es_one (es_ret (ex_bl))))), hm, Fn.kp, hb⟩
theorem ok_leads_round (Z : Zs K mg) (Er : Es P K mg Bn fn)  {f : Addr} {fd : FuncData} (Fn : Fun K "leads_round" "leads_round" st_leads_round f fd) (hm : mg "leads_round" = some (.ref f)) (hb : Binds K fd P_leads_round []) : Def0 P w K mg base 1 "leads_round" P_leads_round F_leads_round :=
  ⟨f, fd, fnG_pure Fn S_leads_round (fun ds _ => rfl) (fun cdv A outer s H E hr hq =>
    have hu := hr.units
    es_seq (es_set (i := 1) S_leads_round.nd rfl (by first | exact .inl rfl | exact .inr rfl) (EN.ex (en_blt (cr_sortedD2 rfl hu) rfl Z.z_sorted rfl (ea_cons (ex_var (pv 0)) (ea_nil)))))
      (es_seq (es_set (i := 2) S_leads_round.nd rfl (by first | exact .inl rfl | exact .inr rfl) (ex_bl))
      (es_seq (es_while (n := 200) PassesOwn.leaving (et_val (ex_var (pv 2))) (es_seq (es_setComp (i := 3) rfl S_leads_round.nd rfl rfl (sw_true rfl rfl rfl (by decide +kernel)) (own := [("router", 4)]) (ei_it (ex_var (pv 1))) (blkOk_by (own := [("router", 4)]) (N := N_leads_round) (sc := defScope st_leads_round) (by decide +kernel)) (us := [4]) (by decide) (fun _ _ _ _ _ => eg_name (i := 4) S_leads_round.nd rfl (by first | exact .inl rfl | exact .inr rfl)) (fun _ _ _ _ _ => eq_one (et_val (ex_blt (cr_anyD rfl) rfl Z.z_any rfl (ea_cons (EN.ex (en_comp rfl S_leads_round.nd (own := [("hop", 5)]) (ei_it (ex_ix hu (ex_var (pv 0)) (ex_var (pv 4)) (fun _ _ => rfl))) (blkOk_by (own := [("hop", 5)]) (N := N_leads_round) (by kernel_rfl)) (us := [5]) (by decide) (fun _ _ _ _ _ => eg_name (i := 5) S_leads_round.nd rfl (by first | exact .inl rfl | exact .inr rfl)) (fun _ _ _ _ _ => eq_nil) (fun _ _ _ _ _ => ex_cmp (op_inD2 hu) (ex_var (pv 5)) (ex_var (pv 1))))) (ea_nil))))) (fun _ _ _ _ _ => ex_var (pv 4)))
      (es_seq (es_set (i := 2) S_leads_round.nd rfl (by first | exact .inl rfl | exact .inr rfl) (ex_cmp (op_ltD hu) (ex_blt cr_lenD rfl Z.z_len rfl (ea_cons (ex_var (pv 3)) (ea_nil))) (ex_blt cr_lenD rfl Z.z_len rfl (ea_cons (ex_var (pv 1)) (ea_nil)))))
      (es_one (es_set (i := 1) S_leads_round.nd rfl (by first | exact .inl rfl | exact .inr rfl) (ex_var (pv 3)))))))
      (es_one (es_ret (ex_cmp (op_gtD hu) (ex_blt cr_lenD rfl Z.z_len rfl (ea_cons (ex_var (pv 1)) (ea_nil))) (ex_int))))))), hm, Fn.kp, hb⟩
theorem ok_changing (Z : Zs K mg) (Er : Es P K mg Bn fn)  {f : Addr} {fd : FuncData} (Fn : Fun K "changing" "changing" st_changing f fd) (hm : mg "changing" = some (.ref f)) (hb : Binds K fd P_changing []) : Def0 P w K mg base 1 "changing" P_changing F_changing :=
  ⟨f, fd, fnG_pure Fn S_changing (fun ds _ => rfl) (fun cdv A outer s H E hr hq =>
    have hu := hr.units
    es_one (es_ret (EN.ex (en_comp rfl S_changing.nd (own := [("router", 2)]) (ei_it (EN.ex (en_blt (cr_sortedD2 rfl hu) rfl Z.z_sorted rfl (ea_cons (ex_var (pv 0)) (ea_nil))))) (blkOk_by (own := [("router", 2)]) (N := N_changing) (sc := defScope st_changing) (by decide +kernel)) (us := [2]) (by decide) (fun _ _ _ _ _ => eg_name (i := 2) S_changing.nd rfl (by first | exact .inl rfl | exact .inr rfl)) (fun _ _ _ _ _ => eq_one (et_cmp (op_neD2 hu) (ex_ix hu (ex_var (pv 0)) (ex_var (pv 2)) (fun _ _ => rfl)) (ex_ix hu (ex_var (pv 1)) (ex_var (pv 2)) (fun _ _ => rfl)))) (fun _ _ _ _ _ => ex_var (pv 2)))))), hm, Fn.kp, hb⟩
theorem ok_mixed (Z : Zs K mg) (Er : Es P K mg Bn fn)  {f : Addr} {fd : FuncData} (Fn : Fun K "mixed" "mixed" st_mixed f fd) (hm : mg "mixed" = some (.ref f)) (hb : Binds K fd P_mixed []) : Def0 P w K mg base 1 "mixed" P_mixed F_mixed :=
  ⟨f, fd, fnG_pure Fn S_mixed (fun ds _ => rfl) (fun cdv A outer s H E hr hq =>
    have hu := hr.units
    es_seq (es_own (i := 4) S_mixed.nd rfl (by first | exact .inl rfl | exact .inr rfl) (en_dict0))
      (es_seq (es_for (vs := [5]) PassesOwn.leaving rfl (ei_it (EN.ex (en_blt (cr_sortedD2 rfl hu) rfl Z.z_sorted rfl (ea_cons (ex_var (pv 0)) (ea_nil))))) (eg_name (i := 5) S_mixed.nd rfl (by first | exact .inl rfl | exact .inr rfl)) (es_one (es_if (et_cmp (op_inD2 hu) (ex_var (pv 5)) (ex_var (pv 3))) (es_one (es_setK hu (pv 4) (ex_var (pv 5)) (EN.ex (en_sortSetI rfl rfl Z.z_sorted rfl Z.z_set (EN.ex (en_lst (ea_star (ex_ix hu (ex_var (pv 0)) (ex_var (pv 5)) (fun _ _ => rfl)) (ea_star (ex_ix hu (ex_var (pv 1)) (ex_var (pv 5)) (fun _ _ => rfl)) (ea_nil))))))))) (es_one (es_setK hu (pv 4) (ex_var (pv 5)) (EN.ex (en_bty (cr_listD2 rfl) rfl Z.z_list rfl (ea_cons (ex_if (et_cmp (op_inD2 hu) (ex_var (pv 5)) (ex_var (pv 2))) (ex_ix hu (ex_var (pv 1)) (ex_var (pv 5)) (fun _ _ => rfl)) (ex_ix hu (ex_var (pv 0)) (ex_var (pv 5)) (fun _ _ => rfl))) (ea_nil)))))))))
      (es_one (es_ret (ex_var (pv 4)))))), hm, Fn.kp, hb⟩
theorem ok_subsets (Z : Zs K mg) (Er : Es P K mg Bn fn)  {f : Addr} {fd : FuncData} (Fn : Fun K "subsets" "subsets" st_subsets f fd) (hm : mg "subsets" = some (.ref f)) (hb : Binds K fd P_subsets []) : Def0 P w K mg base 1 "subsets" P_subsets F_subsets :=
  ⟨f, fd, fnG_pure Fn S_subsets (fun ds _ => rfl) (fun cdv A outer s H E hr hq =>
    have hu := hr.units
    es_seq (es_set (i := 1) S_subsets.nd rfl (by first | exact .inl rfl | exact .inr rfl) (EN.ex (en_lst (ea_cons (EN.ex (en_lst (ea_nil))) (ea_nil)))))
      (es_seq (es_for (vs := [2]) PassesOwn.leaving rfl (ei_it (ex_var (pv 0))) (eg_name (i := 2) S_subsets.nd rfl (by first | exact .inl rfl | exact .inr rfl)) (es_one (es_set (i := 1) S_subsets.nd rfl (by first | exact .inl rfl | exact .inr rfl) (ex_bin op_addD (ex_var (pv 1)) (EN.ex (en_comp rfl S_subsets.nd (own := [("told", 4)]) (ei_it (ex_var (pv 1))) (blkOk_by (own := [("told", 4)]) (N := N_subsets) (sc := defScope st_subsets) (by decide +kernel)) (us := [4]) (by decide) (fun _ _ _ _ _ => eg_name (i := 4) S_subsets.nd rfl (by first | exact .inl rfl | exact .inr rfl)) (fun _ _ _ _ _ => eq_nil) (fun _ _ _ _ _ => EN.ex (en_lst (ea_star (ex_var (pv 4)) (ea_cons (ex_var (pv 2)) (ea_nil)))))))))))
      (es_one (es_ret (EN.ex (en_comp rfl S_subsets.nd (own := [("_", 3), ("told", 4)]) (ei_it (EN.ex (en_blt (cr_sortedD2 rfl hu) rfl Z.z_sorted rfl (ea_cons (EN.ex (en_comp rfl S_subsets.nd (own := [("told", 4)]) (ei_it (ex_var (pv 1))) (blkOk_by (own := [("told", 4)]) (N := N_subsets) (sc := defScope st_subsets) (by decide +kernel)) (us := [4]) (by decide) (fun _ _ _ _ _ => eg_name (i := 4) S_subsets.nd rfl (by first | exact .inl rfl | exact .inr rfl)) (fun _ _ _ _ _ => eq_nil) (fun _ _ _ _ _ => ex_tup (ea_cons (ex_un un_negD (ex_blt cr_lenD rfl Z.z_len rfl (ea_cons (ex_var (pv 4)) (ea_nil)))) (ea_cons (ex_var (pv 4)) (ea_nil)))))) (ea_nil))))) (blkOk_by (own := [("_", 3), ("told", 4)]) (N := N_subsets) (sc := defScope st_subsets) (by decide +kernel)) (us := [3, 4]) (by decide) (fun _ _ _ _ _ => eg_tup rfl (egs_cons (eg_name (i := 3) S_subsets.nd rfl (by first | exact .inl rfl | exact .inr rfl)) (egs_cons (eg_name (i := 4) S_subsets.nd rfl (by first | exact .inl rfl | exact .inr rfl)) (egs_nil))) (glCons_len (glCons_len (glNil_len)))) (fun _ _ _ _ _ => eq_nil) (fun _ _ _ _ _ => ex_var (pv 4)))))))), hm, Fn.kp, hb⟩
theorem ok_reached_by (Z : Zs K mg) (Er : Es P K mg Bn fn)  {f : Addr} {fd : FuncData} (Fn : Fun K "reached_by" "reached_by" st_reached_by f fd) (hm : mg "reached_by" = some (.ref f)) (hb : Binds K fd P_reached_by []) : Def0 P w K mg base 1 "reached_by" P_reached_by F_reached_by :=
  ⟨f, fd, fnG_pure Fn S_reached_by (fun ds _ => rfl) (fun cdv A outer s H E hr hq =>
    have hu := hr.units
    es_seq (es_own (i := 2) S_reached_by.nd rfl (by first | exact .inl rfl | exact .inr rfl) (en_dict0))
      (es_seq (es_own (i := 3) S_reached_by.nd rfl (by first | exact .inl rfl | exact .inr rfl) (en_bty (cr_listD2 rfl) rfl Z.z_list rfl (ea_cons (ex_ix hu (ex_var (pv 0)) (ex_var (pv 1)) (fun _ _ => rfl)) (ea_nil))))
      (es_seq (es_while (n := 200) PassesOwn.leaving (et_cmp (op_gtD hu) (ex_lenB (pv 3) rfl Z.z_len) (ex_int)) (es_seq (es_set (i := 4) S_reached_by.nd rfl (by first | exact .inl rfl | exact .inr rfl) (ex_mutL0 PySem.F.slot_list_pop PySem.F.type_list_pop mt_pop mut_pop (pv 3)))
      (es_one (es_if (et_cmpB ninD2_flat (op_ninD2 hu) (ex_var (pv 4)) (pv 2)) (es_seq (es_setK hu (pv 2) (ex_var (pv 4)) (ex_bl))
      (es_one (es_drop (ex_mutL PySem.F.slot_list_extend PySem.F.type_list_extend mt_extend mut_ext (pv 3) (ea_cons (ex_ix hu (ex_var (pv 0)) (ex_var (pv 4)) (fun _ _ => rfl)) (ea_nil)))))) (es_nil)))))
      (es_one (es_ret (EN.ex (en_blt (cr_sortedD2 rfl hu) rfl Z.z_sorted rfl (ea_cons (ex_var (pv 2)) (ea_nil))))))))), hm, Fn.kp, hb⟩
theorem ok__law_draws (Z : Zs K mg) (Er : Es P K mg Bn fn)  {f : Addr} {fd : FuncData} (Fn : Fun K "_law_draws" "_law_draws" st__law_draws f fd) (hm : mg "_law_draws" = some (.ref f)) (hb : Binds K fd P__law_draws []) : DefS P w K mg base 1 "_law_draws" P__law_draws F__law_draws :=
  ⟨f, fd, fnG_script Fn S__law_draws rfl (by decide) (fun cdv A outer s H E hr hq =>
    have hu := hr.units
    es_seq (es_own (i := 1) S__law_draws.nd rfl (by first | exact .inl rfl | exact .inr rfl) (en_lst (ea_nil)))
      (es_seq (es_for (vs := [2]) PassesOwn.leaving rfl (ei_rng1 rfl Z.z_range (ea_cons (ex_blt (cr_min2 rfl) rfl Z.z_min rfl (ea_cons (ex_int) (ea_cons (ex_lenS (pv 0) rfl Z.z_len) (ea_nil)))) (ea_nil))) (eg_name (i := 2) S__law_draws.nd rfl (by first | exact .inl rfl | exact .inr rfl)) (es_seq (es_set (i := 3) S__law_draws.nd rfl (by first | exact .inl rfl | exact .inr rfl) (ex_blt cr_abs rfl Z.z_abs rfl (ea_cons (ex_atS (pv 0) (ex_var (pv 2)) (fun _ _ => rfl)) (ea_nil))))
      (es_one (es_if (et_cmp (op_geD hu) (ex_var (pv 3)) (ex_bin op_powD (ex_int) (ex_int))) (es_one (es_for (vs := [4]) PassesOwn.leaving rfl (ei_rng1 rfl Z.z_range (ea_cons (ex_int) (ea_nil))) (eg_name (i := 4) S__law_draws.nd rfl (by first | exact .inl rfl | exact .inr rfl)) (es_one (es_if (et_cmp (op_gtD hu) (ex_var (pv 3)) (ex_int)) (es_seq (es_drop (ex_mutL PySem.F.slot_list_append PySem.F.type_list_append mt_append mut_app (pv 1) (ea_cons (ex_bin op_modD (ex_bty cr_int rfl Z.z_int rfl (ea_cons (ex_var (pv 3)) (ea_nil))) (ex_int)) (ea_nil))))
      (es_one (es_set (i := 3) S__law_draws.nd rfl (by first | exact .inl rfl | exact .inr rfl) (ex_bin op_fdivD (ex_var (pv 3)) (ex_int))))) (es_nil))))) (es_seq (es_set (i := 5) S__law_draws.nd rfl (by first | exact .inl rfl | exact .inr rfl) (ex_bin op_modD (ex_bty cr_int rfl Z.z_int rfl (ea_cons (ex_bin op_addD (ex_bin op_mulD (ex_var (pv 3)) (ex_int)) (ex_bin op_mulD (ex_bin op_addD (ex_var (pv 2)) (ex_int)) (ex_int))) (ea_nil))) (ex_int)))
      (es_seq (es_set (i := 5) S__law_draws.nd rfl (by first | exact .inl rfl | exact .inr rfl) (ex_bin op_modD (ex_bty cr_int rfl Z.z_int rfl (ea_cons (ex_bin op_addD (ex_bin op_addD (ex_bin op_mulD (ex_var (pv 5)) (ex_int)) (ex_bin op_mulD (ex_int) (ex_var (pv 2)))) (ex_int)) (ea_nil))) (ex_int)))
      (es_seq (es_drop (ex_mutL PySem.F.slot_list_append PySem.F.type_list_append mt_append mut_app (pv 1) (ea_cons (ex_bin op_modD (ex_bty cr_int rfl Z.z_int rfl (ea_cons (ex_var (pv 5)) (ea_nil))) (ex_int)) (ea_nil))))
      (es_one (es_drop (ex_mutL PySem.F.slot_list_append PySem.F.type_list_append mt_append mut_app (pv 1) (ea_cons (ex_bin op_modD (ex_bty cr_int rfl Z.z_int rfl (ea_cons (ex_bin op_fdivD (ex_var (pv 5)) (ex_int)) (ea_nil))) (ex_int)) (ea_nil))))))))))))
      (es_one (es_ret (ex_var (pv 1)))))), hm, Fn.kp, hb⟩
theorem ok__law_mix (Z : Zs K mg) (Er : Es P K mg Bn fn)  {f : Addr} {fd : FuncData} (Fn : Fun K "_law_mix" "_law_mix" st__law_mix f fd) (hm : mg "_law_mix" = some (.ref f)) (hb : Binds K fd P__law_mix []) : Def0 P w K mg base 1 "_law_mix" P__law_mix F__law_mix :=
  ⟨f, fd, fnG_pure Fn S__law_mix (fun ds _ => rfl) (fun cdv A outer s H E hr hq =>
    have hu := hr.units
    es_seq (es_set (i := 3) S__law_mix.nd rfl (by first | exact .inl rfl | exact .inr rfl) (ex_int))
      (es_seq (es_if (et_cmp (op_gtD hu) (ex_blt cr_lenD rfl Z.z_len rfl (ea_cons (ex_var (pv 0)) (ea_nil))) (ex_int)) (es_one (es_set (i := 3) S__law_mix.nd rfl (by first | exact .inl rfl | exact .inr rfl) (ex_ix hu (ex_var (pv 0)) (ex_bin op_modD (ex_bty cr_int rfl Z.z_int rfl (ea_cons (ex_var (pv 1)) (ea_nil))) (ex_blt cr_lenD rfl Z.z_len rfl (ea_cons (ex_var (pv 0)) (ea_nil)))) (fun _ _ => rfl)))) (es_nil))
      (es_seq (es_if (et_cmp (op_ltD hu) (ex_var (pv 1)) (ex_blt cr_lenD rfl Z.z_len rfl (ea_cons (ex_var (pv 0)) (ea_nil)))) (es_one (es_ret (ex_bin op_modD (ex_bty cr_int rfl Z.z_int rfl (ea_cons (ex_var (pv 3)) (ea_nil))) (ex_var (pv 2))))) (es_nil))
      (es_one (es_ret (ex_bin op_modD (ex_bty cr_int rfl Z.z_int rfl (ea_cons (ex_bin op_fdivD (ex_bty cr_int rfl Z.z_int rfl (ea_cons (ex_bin op_addD (ex_bin op_mulD (ex_var (pv 3)) (ex_int)) (ex_bin op_mulD (ex_var (pv 1)) (ex_int))) (ea_nil))) (ex_int)) (ea_nil))) (ex_var (pv 2)))))))), hm, Fn.kp, hb⟩
theorem ok__law_round (Z : Zs K mg) (Er : Es P K mg Bn fn)  {f : Addr} {fd : FuncData} (Fn : Fun K "_law_round" "_law_round" st__law_round f fd) (hm : mg "_law_round" = some (.ref f)) (hb : Binds K fd P__law_round []) : Def0 P w K mg base 1 "_law_round" P__law_round F__law_round :=
  ⟨f, fd, fnG_pure Fn S__law_round (fun ds _ => rfl) (fun cdv A outer s H E hr hq =>
    have hu := hr.units
    es_seq (es_set (i := 1) S__law_round.nd rfl (by first | exact .inl rfl | exact .inr rfl) (EN.ex (en_blt (cr_sortedD2 rfl hu) rfl Z.z_sorted rfl (ea_cons (ex_var (pv 0)) (ea_nil)))))
      (es_seq (es_for (vs := [2]) PassesOwn.leaving rfl (ei_rng1 rfl Z.z_range (ea_cons (ex_blt cr_lenD rfl Z.z_len rfl (ea_cons (ex_var (pv 0)) (ea_nil))) (ea_nil))) (eg_name (i := 2) S__law_round.nd rfl (by first | exact .inl rfl | exact .inr rfl)) (es_one (es_set (i := 1) S__law_round.nd rfl (by first | exact .inl rfl | exact .inr rfl) (EN.ex (en_comp rfl S__law_round.nd (own := [("router", 3)]) (ei_it (ex_var (pv 1))) (blkOk_by (own := [("router", 3)]) (N := N__law_round) (sc := defScope st__law_round) (by decide +kernel)) (us := [3]) (by decide) (fun _ _ _ _ _ => eg_name (i := 3) S__law_round.nd rfl (by first | exact .inl rfl | exact .inr rfl)) (fun _ _ _ _ _ => eq_one (et_cmp (op_neD2 hu) (EN.ex (en_comp rfl S__law_round.nd (own := [("hop", 4)]) (ei_it (ex_ix hu (ex_var (pv 0)) (ex_var (pv 3)) (fun _ _ => rfl))) (blkOk_by (own := [("hop", 4)]) (N := N__law_round) (by kernel_rfl)) (us := [4]) (by decide) (fun _ _ _ _ _ => eg_name (i := 4) S__law_round.nd rfl (by first | exact .inl rfl | exact .inr rfl)) (fun _ _ _ _ _ => eq_one (et_cmp (op_inD2 hu) (ex_var (pv 4)) (ex_var (pv 1)))) (fun _ _ _ _ _ => ex_var (pv 4)))) (EN.ex (en_lst (ea_nil))))) (fun _ _ _ _ _ => ex_var (pv 3)))))))
      (es_one (es_ret (ex_cmp (op_neD2 hu) (ex_var (pv 1)) (EN.ex (en_lst (ea_nil)))))))), hm, Fn.kp, hb⟩
theorem ok__law_sets (Z : Zs K mg) (Er : Es P K mg Bn fn)  {f : Addr} {fd : FuncData} (Fn : Fun K "_law_sets" "_law_sets" st__law_sets f fd) (hm : mg "_law_sets" = some (.ref f)) (hb : Binds K fd P__law_sets []) : Def0 P w K mg base 1 "_law_sets" P__law_sets F__law_sets :=
  ⟨f, fd, fnG_pure Fn S__law_sets (fun ds _ => rfl) (fun cdv A outer s H E hr hq =>
    have hu := hr.units
    es_seq (es_set (i := 1) S__law_sets.nd rfl (by first | exact .inl rfl | exact .inr rfl) (EN.ex (en_lst (ea_cons (EN.ex (en_lst (ea_nil))) (ea_nil)))))
      (es_seq (es_for (vs := [2]) PassesOwn.leaving rfl (ei_it (ex_var (pv 0))) (eg_name (i := 2) S__law_sets.nd rfl (by first | exact .inl rfl | exact .inr rfl)) (es_one (es_set (i := 1) S__law_sets.nd rfl (by first | exact .inl rfl | exact .inr rfl) (ex_bin op_addD (ex_var (pv 1)) (EN.ex (en_comp rfl S__law_sets.nd (own := [("told", 4)]) (ei_it (ex_var (pv 1))) (blkOk_by (own := [("told", 4)]) (N := N__law_sets) (sc := defScope st__law_sets) (by decide +kernel)) (us := [4]) (by decide) (fun _ _ _ _ _ => eg_name (i := 4) S__law_sets.nd rfl (by first | exact .inl rfl | exact .inr rfl)) (fun _ _ _ _ _ => eq_nil) (fun _ _ _ _ _ => ex_bin op_addD (ex_var (pv 4)) (EN.ex (en_lst (ea_cons (ex_var (pv 2)) (ea_nil)))))))))))
      (es_one (es_ret (EN.ex (en_comp rfl S__law_sets.nd (own := [("size", 3), ("told", 4)]) (ei_it (EN.ex (en_blt (cr_sortedD2 rfl hu) rfl Z.z_sorted rfl (ea_cons (EN.ex (en_comp rfl S__law_sets.nd (own := [("told", 4)]) (ei_it (ex_var (pv 1))) (blkOk_by (own := [("told", 4)]) (N := N__law_sets) (sc := defScope st__law_sets) (by decide +kernel)) (us := [4]) (by decide) (fun _ _ _ _ _ => eg_name (i := 4) S__law_sets.nd rfl (by first | exact .inl rfl | exact .inr rfl)) (fun _ _ _ _ _ => eq_nil) (fun _ _ _ _ _ => ex_tup (ea_cons (ex_un un_negD (ex_blt cr_lenD rfl Z.z_len rfl (ea_cons (ex_var (pv 4)) (ea_nil)))) (ea_cons (ex_var (pv 4)) (ea_nil)))))) (ea_nil))))) (blkOk_by (own := [("size", 3), ("told", 4)]) (N := N__law_sets) (sc := defScope st__law_sets) (by decide +kernel)) (us := [3, 4]) (by decide) (fun _ _ _ _ _ => eg_tup rfl (egs_cons (eg_name (i := 3) S__law_sets.nd rfl (by first | exact .inl rfl | exact .inr rfl)) (egs_cons (eg_name (i := 4) S__law_sets.nd rfl (by first | exact .inl rfl | exact .inr rfl)) (egs_nil))) (glCons_len (glCons_len (glNil_len)))) (fun _ _ _ _ _ => eq_nil) (fun _ _ _ _ _ => ex_var (pv 4)))))))), hm, Fn.kp, hb⟩
theorem ok_check_change (Z : Zs K mg) (Er : Es P K mg Bn fn) (d_leads_round : Def0 P w K mg base 1 "leads_round" P_leads_round F_leads_round) (d_is_hops : Def0 P w K mg base 1 "is_hops" P_is_hops F_is_hops) {f : Addr} {fd : FuncData} (Fn : Fun K "check_change" "check_change" st_check_change f fd) (hm : mg "check_change" = some (.ref f)) (hb : Binds K fd P_check_change []) : Def0 P w K mg base 2 "check_change" P_check_change F_check_change :=
  ⟨f, fd, fnG_pure Fn S_check_change (fun ds _ => rfl) (fun cdv A outer s H E hr hq =>
    have hu := hr.units
    es_seq (es_if (et_not (et_val (ex_callD (ps := P_is_hops) d_is_hops hr (by omega) hq rfl (takes_of rfl rfl rfl rfl) (ea_cons (ex_var (pv 0)) (ea_nil))))) (es_one ((by obtain ⟨C, g1, TC⟩ := Er.c_BadChange; exact es_raise Er.net TC g1 rfl hr (takes_of rfl rfl rfl rfl) (ex_int) rfl))) (es_nil))
      (es_seq (es_if (et_bool (ew_or (et_not (et_val (ex_callD (ps := P_is_hops) d_is_hops hr (by omega) hq rfl (takes_of rfl rfl rfl rfl) (ea_cons (ex_var (pv 1)) (ea_nil))))) (ew_or1 (et_cmp (op_neD2 hu) (EN.ex (en_blt (cr_sortedD2 rfl hu) rfl Z.z_sorted rfl (ea_cons (ex_var (pv 1)) (ea_nil)))) (EN.ex (en_blt (cr_sortedD2 rfl hu) rfl Z.z_sorted rfl (ea_cons (ex_var (pv 0)) (ea_nil)))))))) (es_one ((by obtain ⟨C, g1, TC⟩ := Er.c_BadChange; exact es_raise Er.net TC g1 rfl hr (takes_of rfl rfl rfl rfl) (ex_int) rfl))) (es_nil))
      (es_seq (es_if (et_val (ex_callD (ps := P_leads_round) d_leads_round hr (by omega) hq rfl (takes_of rfl rfl rfl rfl) (ea_cons (ex_var (pv 0)) (ea_nil)))) (es_one ((by obtain ⟨C, g1, TC⟩ := Er.c_BadChange; exact es_raise Er.net TC g1 rfl hr (takes_of rfl rfl rfl rfl) (ex_int) rfl))) (es_nil))
      (es_one (es_if (et_val (ex_callD (ps := P_leads_round) d_leads_round hr (by omega) hq rfl (takes_of rfl rfl rfl rfl) (ea_cons (ex_var (pv 1)) (ea_nil)))) (es_one ((by obtain ⟨C, g1, TC⟩ := Er.c_BadChange; exact es_raise Er.net TC g1 rfl hr (takes_of rfl rfl rfl rfl) (ex_int) rfl))) (es_nil)))))), hm, Fn.kp, hb⟩
theorem ok_is_round_safe (Z : Zs K mg) (Er : Es P K mg Bn fn) (d_leads_round : Def0 P w K mg base 1 "leads_round" P_leads_round F_leads_round) (d_mixed : Def0 P w K mg base 1 "mixed" P_mixed F_mixed) {f : Addr} {fd : FuncData} (Fn : Fun K "is_round_safe" "is_round_safe" st_is_round_safe f fd) (hm : mg "is_round_safe" = some (.ref f)) (hb : Binds K fd P_is_round_safe []) : Def0 P w K mg base 2 "is_round_safe" P_is_round_safe F_is_round_safe :=
  ⟨f, fd, fnG_pure Fn S_is_round_safe (fun ds _ => rfl) (fun cdv A outer s H E hr hq =>
    have hu := hr.units
    es_one (es_ret (ex_not (ex_callD (ps := P_leads_round) d_leads_round hr (by omega) hq rfl (takes_of rfl rfl rfl rfl) (ea_cons (ex_callD (ps := P_mixed) d_mixed hr (by omega) hq rfl (takes_of rfl rfl rfl rfl) (ea_cons (ex_var (pv 0)) (ea_cons (ex_var (pv 1)) (ea_cons (ex_var (pv 2)) (ea_cons (ex_var (pv 3)) (ea_nil)))))) (ea_nil)))))), hm, Fn.kp, hb⟩
theorem ok__law_hops (Z : Zs K mg) (Er : Es P K mg Bn fn) (d__law_mix : Def0 P w K mg base 1 "_law_mix" P__law_mix F__law_mix) {f : Addr} {fd : FuncData} (Fn : Fun K "_law_hops" "_law_hops" st__law_hops f fd) (hm : mg "_law_hops" = some (.ref f)) (hb : Binds K fd P__law_hops []) : Def0 P w K mg base 2 "_law_hops" P__law_hops F__law_hops :=
  ⟨f, fd, fnG_pure Fn S__law_hops (fun ds _ => rfl) (fun cdv A outer s H E hr hq =>
    have hu := hr.units
    es_seq (es_own (i := 3) S__law_hops.nd rfl (by first | exact .inl rfl | exact .inr rfl) (en_lst (ea_nil)))
      (es_seq (es_for (vs := [4]) PassesOwn.leaving rfl (ei_rng1 rfl Z.z_range (ea_cons (ex_var (pv 2)) (ea_nil))) (eg_name (i := 4) S__law_hops.nd rfl (by first | exact .inl rfl | exact .inr rfl)) (es_one (es_drop (ex_mutL PySem.F.slot_list_insert PySem.F.type_list_insert mt_insert mut_ins (pv 3) (ea_cons (ex_callD (ps := P__law_mix) d__law_mix hr (by omega) hq rfl (takes_of rfl rfl rfl rfl) (ea_cons (ex_var (pv 0)) (ea_cons (ex_bin op_addD (ex_var (pv 1)) (ex_var (pv 4))) (ea_cons (ex_bin op_addD (ex_lenB (pv 3) rfl Z.z_len) (ex_int)) (ea_nil))))) (ea_cons (ex_var (pv 4)) (ea_nil)))))))
      (es_seq (es_own (i := 5) S__law_hops.nd rfl (by first | exact .inl rfl | exact .inr rfl) (en_dict0))
      (es_seq (es_for (vs := [6]) PassesOwn.leaving rfl (ei_rng1 rfl Z.z_range (ea_cons (ex_var (pv 2)) (ea_nil))) (eg_name (i := 6) S__law_hops.nd rfl (by first | exact .inl rfl | exact .inr rfl)) (es_seq (es_set (i := 7) S__law_hops.nd rfl (by first | exact .inl rfl | exact .inr rfl) (EN.ex (en_lst (ea_nil))))
      (es_seq (es_if (et_cmp (op_gtD hu) (ex_var (pv 6)) (ex_int)) (es_one (es_setComp (i := 7) rfl S__law_hops.nd rfl rfl (sw_true rfl rfl rfl (by decide +kernel)) (own := [("t", 8)]) (ei_rng1 rfl Z.z_range (ea_cons (ex_bin op_addD (ex_int) (ex_callD (ps := P__law_mix) d__law_mix hr (by omega) hq rfl (takes_of rfl rfl rfl rfl) (ea_cons (ex_var (pv 0)) (ea_cons (ex_bin op_addD (ex_bin op_addD (ex_var (pv 1)) (ex_int)) (ex_bin op_mulD (ex_int) (ex_var (pv 6)))) (ea_cons (ex_int) (ea_nil)))))) (ea_nil))) (blkOk_by (own := [("t", 8)]) (N := N__law_hops) (sc := defScope st__law_hops) (by decide +kernel)) (us := [8]) (by decide) (fun _ _ _ _ _ => eg_name (i := 8) S__law_hops.nd rfl (by first | exact .inl rfl | exact .inr rfl)) (fun _ _ _ _ _ => eq_nil) (fun _ _ _ _ _ => ex_ixB hu (pv 3) (ex_callD (ps := P__law_mix) d__law_mix hr (by omega) hq rfl takes0 (ea_cons (ex_var (pv 0)) (ea_cons (ex_bin op_addD (ex_bin op_addD (ex_bin op_addD (ex_var (pv 1)) (ex_int)) (ex_bin op_mulD (ex_int) (ex_var (pv 6)))) (ex_var (pv 8))) (ea_cons (ex_var (pv 6)) (ea_nil))))) (fun _ _ => rfl)))) (es_nil))
      (es_one (es_setK hu (pv 5) (ex_ixB hu (pv 3) (ex_var (pv 6)) (fun _ _ => rfl)) (EN.ex (en_sortSetI rfl rfl Z.z_sorted rfl Z.z_set (ex_var (pv 7)))))))))
      (es_one (es_ret (EN.ex (en_bty (cr_dictD rfl hu) rfl Z.z_dict rfl (ea_cons (EN.ex (en_comp rfl S__law_hops.nd (own := [("router", 4)]) (ei_it (EN.ex (en_blt (cr_sortedD2 rfl hu) rfl Z.z_sorted rfl (ea_cons (ex_var (pv 5)) (ea_nil))))) (blkOk_by (own := [("router", 4)]) (N := N__law_hops) (sc := defScope st__law_hops) (by decide +kernel)) (us := [4]) (by decide) (fun _ _ _ _ _ => eg_name (i := 4) S__law_hops.nd rfl (by first | exact .inl rfl | exact .inr rfl)) (fun _ _ _ _ _ => eq_nil) (fun _ _ _ _ _ => ex_tup (ea_cons (ex_var (pv 4)) (ea_cons (ex_ixB hu (pv 5) (ex_var (pv 4)) (fun _ _ => rfl)) (ea_nil)))))) (ea_nil)))))))))), hm, Fn.kp, hb⟩
theorem ok__law_safe (Z : Zs K mg) (Er : Es P K mg Bn fn) (d__law_round : Def0 P w K mg base 1 "_law_round" P__law_round F__law_round) {f : Addr} {fd : FuncData} (Fn : Fun K "_law_safe" "_law_safe" st__law_safe f fd) (hm : mg "_law_safe" = some (.ref f)) (hb : Binds K fd P__law_safe []) : Def0 P w K mg base 2 "_law_safe" P__law_safe F__law_safe :=
  ⟨f, fd, fnG_pure Fn S__law_safe (fun ds _ => rfl) (fun cdv A outer s H E hr hq =>
    have hu := hr.units
    es_seq (es_own (i := 4) S__law_safe.nd rfl (by first | exact .inl rfl | exact .inr rfl) (en_dict0))
      (es_seq (es_for (vs := [5]) PassesOwn.leaving rfl (ei_it (ex_var (pv 0))) (eg_name (i := 5) S__law_safe.nd rfl (by first | exact .inl rfl | exact .inr rfl)) (es_one (es_if (et_cmp (op_inD2 hu) (ex_var (pv 5)) (ex_var (pv 3))) (es_one (es_setK hu (pv 4) (ex_var (pv 5)) (EN.ex (en_sortSetI rfl rfl Z.z_sorted rfl Z.z_set (ex_bin op_addD (ex_ix hu (ex_var (pv 0)) (ex_var (pv 5)) (fun _ _ => rfl)) (ex_ix hu (ex_var (pv 1)) (ex_var (pv 5)) (fun _ _ => rfl))))))) (es_one (es_setK hu (pv 4) (ex_var (pv 5)) (ex_ix hu (EN.ex (en_lst (ea_cons (ex_ix hu (ex_var (pv 0)) (ex_var (pv 5)) (fun _ _ => rfl)) (ea_cons (ex_ix hu (ex_var (pv 1)) (ex_var (pv 5)) (fun _ _ => rfl)) (ea_nil))))) (ex_bty cr_int rfl Z.z_int rfl (ea_cons (ex_cmp (op_inD2 hu) (ex_var (pv 5)) (ex_var (pv 2))) (ea_nil))) (fun _ _ => rfl)))))))
      (es_one (es_ret (ex_not (ex_callD (ps := P__law_round) d__law_round hr (by omega) hq rfl (takes_of rfl rfl rfl rfl) (ea_cons (ex_var (pv 4)) (ea_nil)))))))), hm, Fn.kp, hb⟩
theorem ok_is_safe (Z : Zs K mg) (Er : Es P K mg Bn fn) (d_check_change : Def0 P w K mg base 2 "check_change" P_check_change F_check_change) (d_is_round_safe : Def0 P w K mg base 2 "is_round_safe" P_is_round_safe F_is_round_safe) {f : Addr} {fd : FuncData} (Fn : Fun K "is_safe" "is_safe" st_is_safe f fd) (hm : mg "is_safe" = some (.ref f)) (hb : Binds K fd P_is_safe []) : Def0 P w K mg base 3 "is_safe" P_is_safe F_is_safe :=
  ⟨f, fd, fnG_pure Fn S_is_safe (fun ds _ => rfl) (fun cdv A outer s H E hr hq =>
    have hu := hr.units
    es_seq (es_drop (ex_callD (ps := P_check_change) d_check_change hr (by omega) hq rfl (takes_of rfl rfl rfl rfl) (ea_cons (ex_var (pv 0)) (ea_cons (ex_var (pv 1)) (ea_nil)))))
      (es_one (es_ret (ex_callD (ps := P_is_round_safe) d_is_round_safe hr (by omega) hq rfl (takes_of rfl rfl rfl rfl) (ea_cons (ex_var (pv 0)) (ea_cons (ex_var (pv 1)) (ea_cons (ex_var (pv 2)) (ea_cons (ex_var (pv 3)) (ea_nil))))))))), hm, Fn.kp, hb⟩
theorem ok_hops_at (Z : Zs K mg) (Er : Es P K mg Bn fn) (d_check_change : Def0 P w K mg base 2 "check_change" P_check_change F_check_change) (d_mixed : Def0 P w K mg base 1 "mixed" P_mixed F_mixed) {f : Addr} {fd : FuncData} (Fn : Fun K "hops_at" "hops_at" st_hops_at f fd) (hm : mg "hops_at" = some (.ref f)) (hb : Binds K fd P_hops_at []) : Def0 P w K mg base 3 "hops_at" P_hops_at F_hops_at :=
  ⟨f, fd, fnG_pure Fn S_hops_at (fun ds _ => rfl) (fun cdv A outer s H E hr hq =>
    have hu := hr.units
    es_seq (es_drop (ex_callD (ps := P_check_change) d_check_change hr (by omega) hq rfl (takes_of rfl rfl rfl rfl) (ea_cons (ex_var (pv 0)) (ea_cons (ex_var (pv 1)) (ea_nil)))))
      (es_one (es_ret (ex_callD (ps := P_mixed) d_mixed hr (by omega) hq rfl (takes_of rfl rfl rfl rfl) (ea_cons (ex_var (pv 0)) (ea_cons (ex_var (pv 1)) (ea_cons (ex_var (pv 2)) (ea_cons (EN.ex (en_lst (ea_nil))) (ea_nil))))))))), hm, Fn.kp, hb⟩
theorem ok_are_rounds (Z : Zs K mg) (Er : Es P K mg Bn fn) (d_check_change : Def0 P w K mg base 2 "check_change" P_check_change F_check_change) (d_changing : Def0 P w K mg base 1 "changing" P_changing F_changing) (d_is_round_safe : Def0 P w K mg base 2 "is_round_safe" P_is_round_safe F_is_round_safe) {f : Addr} {fd : FuncData} (Fn : Fun K "are_rounds" "are_rounds" st_are_rounds f fd) (hm : mg "are_rounds" = some (.ref f)) (hb : Binds K fd P_are_rounds []) : Def0 P w K mg base 3 "are_rounds" P_are_rounds F_are_rounds :=
  ⟨f, fd, fnG_pure Fn S_are_rounds (fun ds _ => rfl) (fun cdv A outer s H E hr hq =>
    have hu := hr.units
    es_seq (es_drop (ex_callD (ps := P_check_change) d_check_change hr (by omega) hq rfl (takes_of rfl rfl rfl rfl) (ea_cons (ex_var (pv 0)) (ea_cons (ex_var (pv 1)) (ea_nil)))))
      (es_seq (es_set (i := 3) S_are_rounds.nd rfl (by first | exact .inl rfl | exact .inr rfl) (EN.ex (en_lst (ea_nil))))
      (es_seq (es_for (vs := [4]) PassesOwn.leaving rfl (ei_it (ex_var (pv 2))) (eg_name (i := 4) S_are_rounds.nd rfl (by first | exact .inl rfl | exact .inr rfl)) (es_seq (es_if (et_bool (ew_or (et_cmp (op_eqD2 hu) (ex_blt cr_lenD rfl Z.z_len rfl (ea_cons (ex_var (pv 4)) (ea_nil))) (ex_int)) (ew_or (et_cmp (op_neD2 hu) (EN.ex (en_bty (cr_listD2 rfl) rfl Z.z_list rfl (ea_cons (ex_var (pv 4)) (ea_nil)))) (EN.ex (en_sortSetI rfl rfl Z.z_sorted rfl Z.z_set (ex_var (pv 4))))) (ew_or1 (et_not (et_val (ex_callD (ps := P_is_round_safe) d_is_round_safe hr (by omega) hq rfl (takes_of rfl rfl rfl rfl) (ea_cons (ex_var (pv 0)) (ea_cons (ex_var (pv 1)) (ea_cons (ex_var (pv 3)) (ea_cons (ex_var (pv 4)) (ea_nil)))))))))))) (es_one (es_ret (ex_bl))) (es_nil))
      (es_one (es_set (i := 3) S_are_rounds.nd rfl (by first | exact .inl rfl | exact .inr rfl) (ex_bin op_addD (ex_var (pv 3)) (EN.ex (en_bty (cr_listD2 rfl) rfl Z.z_list rfl (ea_cons (ex_var (pv 4)) (ea_nil)))))))))
      (es_one (es_ret (ex_cmp (op_eqD2 hu) (EN.ex (en_blt (cr_sortedD2 rfl hu) rfl Z.z_sorted rfl (ea_cons (ex_var (pv 3)) (ea_nil)))) (ex_callD (ps := P_changing) d_changing hr (by omega) hq rfl (takes_of rfl rfl rfl rfl) (ea_cons (ex_var (pv 0)) (ea_cons (ex_var (pv 1)) (ea_nil)))))))))), hm, Fn.kp, hb⟩
theorem ok_one_by_one (Z : Zs K mg) (Er : Es P K mg Bn fn) (d_check_change : Def0 P w K mg base 2 "check_change" P_check_change F_check_change) (d_changing : Def0 P w K mg base 1 "changing" P_changing F_changing) (d_reached_by : Def0 P w K mg base 1 "reached_by" P_reached_by F_reached_by) {f : Addr} {fd : FuncData} (Fn : Fun K "one_by_one" "one_by_one" st_one_by_one f fd) (hm : mg "one_by_one" = some (.ref f)) (hb : Binds K fd P_one_by_one []) : Def0 P w K mg base 3 "one_by_one" P_one_by_one F_one_by_one :=
  ⟨f, fd, fnG_pure Fn S_one_by_one (fun ds _ => rfl) (fun cdv A outer s H E hr hq =>
    have hu := hr.units
    es_seq (es_drop (ex_callD (ps := P_check_change) d_check_change hr (by omega) hq rfl (takes_of rfl rfl rfl rfl) (ea_cons (ex_var (pv 0)) (ea_cons (ex_var (pv 1)) (ea_nil)))))
      (es_seq (es_set (i := 2) S_one_by_one.nd rfl (by first | exact .inl rfl | exact .inr rfl) (ex_callD (ps := P_changing) d_changing hr (by omega) hq rfl (takes_of rfl rfl rfl rfl) (ea_cons (ex_var (pv 0)) (ea_cons (ex_var (pv 1)) (ea_nil)))))
      (es_seq (es_own (i := 3) S_one_by_one.nd rfl (by first | exact .inl rfl | exact .inr rfl) (en_lst (ea_nil)))
      (es_seq (es_while (n := 200) PassesOwn.leaving (et_cmp (op_gtD hu) (ex_blt cr_lenD rfl Z.z_len rfl (ea_cons (ex_var (pv 2)) (ea_nil))) (ex_int)) (es_seq (es_set (i := 4) S_one_by_one.nd rfl (by first | exact .inl rfl | exact .inr rfl) (EN.ex (en_comp rfl S_one_by_one.nd (own := [("router", 5)]) (ei_it (ex_var (pv 2))) (blkOk_by (own := [("router", 5)]) (N := N_one_by_one) (sc := defScope st_one_by_one) (by decide +kernel)) (us := [5]) (by decide) (fun _ _ _ _ _ => eg_name (i := 5) S_one_by_one.nd rfl (by first | exact .inl rfl | exact .inr rfl)) (fun _ _ _ _ _ => eq_one (et_not (et_val (ex_blt (cr_anyD rfl) rfl Z.z_any rfl (ea_cons (EN.ex (en_comp rfl S_one_by_one.nd (own := [("other", 6)]) (ei_it (ex_callD (ps := P_reached_by) d_reached_by hr (by omega) hq rfl takes0 (ea_cons (ex_var (pv 1)) (ea_cons (ex_var (pv 5)) (ea_nil))))) (blkOk_by (own := [("other", 6)]) (N := N_one_by_one) (by kernel_rfl)) (us := [6]) (by decide) (fun _ _ _ _ _ => eg_name (i := 6) S_one_by_one.nd rfl (by first | exact .inl rfl | exact .inr rfl)) (fun _ _ _ _ _ => eq_nil) (fun _ _ _ _ _ => ex_cmp (op_inD2 hu) (ex_var (pv 6)) (ex_var (pv 2))))) (ea_nil)))))) (fun _ _ _ _ _ => ex_var (pv 5)))))
      (es_seq (es_drop (ex_mutL PySem.F.slot_list_append PySem.F.type_list_append mt_append mut_app (pv 3) (ea_cons (EN.ex (en_lst (ea_cons (ex_ix hu (ex_var (pv 4)) (ex_int) (fun _ _ => rfl)) (ea_nil)))) (ea_nil))))
      (es_one (es_set (i := 2) S_one_by_one.nd rfl (by first | exact .inl rfl | exact .inr rfl) (EN.ex (en_comp rfl S_one_by_one.nd (own := [("router", 5)]) (ei_it (ex_var (pv 2))) (blkOk_by (own := [("router", 5)]) (N := N_one_by_one) (sc := defScope st_one_by_one) (by decide +kernel)) (us := [5]) (by decide) (fun _ _ _ _ _ => eg_name (i := 5) S_one_by_one.nd rfl (by first | exact .inl rfl | exact .inr rfl)) (fun _ _ _ _ _ => eq_one (et_cmp (op_neD2 hu) (ex_var (pv 5)) (ex_ix hu (ex_var (pv 4)) (ex_int) (fun _ _ => rfl)))) (fun _ _ _ _ _ => ex_var (pv 5)))))))))
      (es_one (es_ret (ex_var (pv 3)))))))), hm, Fn.kp, hb⟩
theorem step_least_from (Z : Zs K mg) (Er : Es P K mg Bn fn) (d_subsets : Def0 P w K mg base 1 "subsets" P_subsets F_subsets) (d_changing : Def0 P w K mg base 1 "changing" P_changing F_changing) (d_is_round_safe : Def0 P w K mg base 2 "is_round_safe" P_is_round_safe F_is_round_safe) {f : Addr} {fd : FuncData} (Fn : Fun K "least_from" "least_from" st_least_from f fd) (hm : mg "least_from" = some (.ref f)) (hb : Binds K fd P_least_from []) (R : FIO) (j : Nat) (hj : 2 ≤ j) (d_least_from : DefIO P w K mg base j "least_from" P_least_from 3 R) : DefIO P w K mg base (j + 1) "least_from" P_least_from 3 (runIO 9 3 (B_least_from R)) :=
  ⟨f, fd, fnG_io (N := N_least_from) (n := 3) (B := B_least_from R) Fn S_least_from rfl (by decide) (fun cdv A outer s H E hr hq =>
    have hu := hr.units
    es_seq (es_if (et_cmpB ninD2_flat (op_ninD2 hu) (ex_var (pv 2)) (pv 3)) (es_seq (es_setComp (i := 4) rfl S_least_from.nd rfl rfl (sw_true rfl rfl rfl (by decide +kernel)) (own := [("router", 7)]) (ei_it (ex_callD (ps := P_changing) d_changing hr (by omega) hq rfl (takes_of rfl rfl rfl rfl) (ea_cons (ex_var (pv 0)) (ea_cons (ex_var (pv 1)) (ea_nil))))) (blkOk_by (own := [("router", 7)]) (N := N_least_from) (sc := defScope st_least_from) (by decide +kernel)) (us := [7]) (by decide) (fun _ _ _ _ _ => eg_name (i := 7) S_least_from.nd rfl (by first | exact .inl rfl | exact .inr rfl)) (fun _ _ _ _ _ => eq_one (et_cmp (op_ninD2 hu) (ex_var (pv 7)) (ex_var (pv 2)))) (fun _ _ _ _ _ => ex_var (pv 7)))
      (es_seq (es_set (i := 5) S_least_from.nd rfl (by first | exact .inl rfl | exact .inr rfl) (ex_if (et_cmp (op_eqD2 hu) (ex_blt cr_lenD rfl Z.z_len rfl (ea_cons (ex_var (pv 4)) (ea_nil))) (ex_int)) (EN.ex (en_lst (ea_nil))) (ex_none)))
      (es_seq (es_for (vs := [6]) PassesOwn.leaving rfl (ei_it (ex_if (et_cmp (op_gtD hu) (ex_blt cr_lenD rfl Z.z_len rfl (ea_cons (ex_var (pv 4)) (ea_nil))) (ex_int)) (ex_callD (ps := P_subsets) d_subsets hr (by omega) hq rfl (takes_of rfl rfl rfl rfl) (ea_cons (ex_var (pv 4)) (ea_nil))) (EN.ex (en_lst (ea_nil))))) (eg_name (i := 6) S_least_from.nd rfl (by first | exact .inl rfl | exact .inr rfl)) (es_one (es_if (et_bool (ew_and (et_cmp (op_gtD hu) (ex_blt cr_lenD rfl Z.z_len rfl (ea_cons (ex_var (pv 6)) (ea_nil))) (ex_int)) (ew_and1 (et_val (ex_callD (ps := P_is_round_safe) d_is_round_safe hr (by omega) hq rfl (takes_of rfl rfl rfl rfl) (ea_cons (ex_var (pv 0)) (ea_cons (ex_var (pv 1)) (ea_cons (EN.ex (en_bty (cr_listD2 rfl) rfl Z.z_list rfl (ea_cons (ex_var (pv 2)) (ea_nil)))) (ea_cons (ex_var (pv 6)) (ea_nil)))))))))) (es_seq (es_set (i := 8) S_least_from.nd rfl (by first | exact .inl rfl | exact .inr rfl) (ex_callIO (ps := P_least_from) d_least_from hr (by omega) hq rfl (takes_of rfl rfl rfl rfl) (eao_cons (ex_var (pv 0)) (eao_cons (ex_var (pv 1)) (eao_cons (ex_bty cr_tuple rfl Z.z_tuple rfl (ea_cons (EN.ex (en_blt (cr_sortedD2 rfl hu) rfl Z.z_sorted rfl (ea_cons (EN.ex (en_lst (ea_star (ex_var (pv 2)) (ea_star (ex_var (pv 6)) (ea_nil))))) (ea_nil)))) (ea_nil))) (eao_last (pv 3)))))))
      (es_one (es_if (et_bool (ew_or (et_isN (ex_var (pv 5))) (ew_or1 (et_cmp (op_ltD hu) (ex_bin op_addD (ex_blt cr_lenD rfl Z.z_len rfl (ea_cons (ex_var (pv 8)) (ea_nil))) (ex_int)) (ex_blt cr_lenD rfl Z.z_len rfl (ea_cons (ex_var (pv 5)) (ea_nil))))))) (es_one (es_set (i := 5) S_least_from.nd rfl (by first | exact .inl rfl | exact .inr rfl) (EN.ex (en_lst (ea_cons (ex_var (pv 6)) (ea_star (ex_var (pv 8)) (ea_nil))))))) (es_nil)))) (es_nil))))
      (es_one (es_setK hu (pv 3) (ex_var (pv 2)) (ex_var (pv 5))))))) (es_nil))
      (es_one (es_ret (ex_ixB hu (pv 3) (ex_var (pv 2)) (fun _ _ => rfl))))), hm, Fn.kp, hb⟩
theorem ok_least_from (Z : Zs K mg) (Er : Es P K mg Bn fn) (d_subsets : Def0 P w K mg base 1 "subsets" P_subsets F_subsets) (d_changing : Def0 P w K mg base 1 "changing" P_changing F_changing) (d_is_round_safe : Def0 P w K mg base 2 "is_round_safe" P_is_round_safe F_is_round_safe) {f : Addr} {fd : FuncData} (Fn : Fun K "least_from" "least_from" st_least_from f fd) (hm : mg "least_from" = some (.ref f)) (hb : Binds K fd P_least_from []) : ∀ m : Nat, DefIO P w K mg base (2 + m) "least_from" P_least_from 3 (F_least_from m)
  | 0 => ⟨f, fd, fnG_bad, hm, Fn.kp, hb⟩
  | m + 1 => step_least_from Z Er d_subsets d_changing d_is_round_safe Fn hm hb (F_least_from m) (2 + m) (by omega) (ok_least_from Z Er d_subsets d_changing d_is_round_safe Fn hm hb m)
theorem step__law_fewest (Z : Zs K mg) (Er : Es P K mg Bn fn) (d__law_sets : Def0 P w K mg base 1 "_law_sets" P__law_sets F__law_sets) (d__law_safe : Def0 P w K mg base 2 "_law_safe" P__law_safe F__law_safe) {f : Addr} {fd : FuncData} (Fn : Fun K "_law_fewest" "_law_fewest" st__law_fewest f fd) (hm : mg "_law_fewest" = some (.ref f)) (hb : Binds K fd P__law_fewest []) (R : FIO) (j : Nat) (hj : 2 ≤ j) (d__law_fewest : DefIO P w K mg base j "_law_fewest" P__law_fewest 3 R) : DefIO P w K mg base (j + 1) "_law_fewest" P__law_fewest 3 (runIO 10 3 (B__law_fewest R)) :=
  ⟨f, fd, fnG_io (N := N__law_fewest) (n := 3) (B := B__law_fewest R) Fn S__law_fewest rfl (by decide) (fun cdv A outer s H E hr hq =>
    have hu := hr.units
    es_seq (es_set (i := 4) S__law_fewest.nd rfl (by first | exact .inl rfl | exact .inr rfl) (ex_bty cr_tuple rfl Z.z_tuple rfl (ea_cons (EN.ex (en_blt (cr_sortedD2 rfl hu) rfl Z.z_sorted rfl (ea_cons (ex_var (pv 2)) (ea_nil)))) (ea_nil))))
      (es_seq (es_if (et_cmpB ninD2_flat (op_ninD2 hu) (ex_var (pv 4)) (pv 3)) (es_seq (es_setComp (i := 5) rfl S__law_fewest.nd rfl rfl (sw_true rfl rfl rfl (by decide +kernel)) (own := [("router", 8)]) (ei_it (EN.ex (en_blt (cr_sortedD2 rfl hu) rfl Z.z_sorted rfl (ea_cons (ex_var (pv 0)) (ea_nil))))) (blkOk_by (own := [("router", 8)]) (N := N__law_fewest) (sc := defScope st__law_fewest) (by decide +kernel)) (us := [8]) (by decide) (fun _ _ _ _ _ => eg_name (i := 8) S__law_fewest.nd rfl (by first | exact .inl rfl | exact .inr rfl)) (fun _ _ _ _ _ => eq_one (et_bool (ew_and (et_cmp (op_neD2 hu) (ex_ix hu (ex_var (pv 0)) (ex_var (pv 8)) (fun _ _ => rfl)) (ex_ix hu (ex_var (pv 1)) (ex_var (pv 8)) (fun _ _ => rfl))) (ew_and1 (et_cmp (op_ninD2 hu) (ex_var (pv 8)) (ex_var (pv 2))))))) (fun _ _ _ _ _ => ex_var (pv 8)))
      (es_seq (es_set (i := 6) S__law_fewest.nd rfl (by first | exact .inl rfl | exact .inr rfl) (ex_ix hu (EN.ex (en_lst (ea_cons (ex_int) (ea_cons (ex_none) (ea_nil))))) (ex_bty cr_int rfl Z.z_int rfl (ea_cons (ex_cmp (op_neD2 hu) (ex_var (pv 5)) (EN.ex (en_lst (ea_nil)))) (ea_nil))) (fun _ _ => rfl)))
      (es_seq (es_for (vs := [7]) PassesOwn.leaving rfl (ei_it (ex_callD (ps := P__law_sets) d__law_sets hr (by omega) hq rfl (takes_of rfl rfl rfl rfl) (ea_cons (ex_var (pv 5)) (ea_nil)))) (eg_name (i := 7) S__law_fewest.nd rfl (by first | exact .inl rfl | exact .inr rfl)) (es_one (es_if (et_bool (ew_and (et_cmp (op_neD2 hu) (ex_var (pv 7)) (EN.ex (en_lst (ea_nil)))) (ew_and1 (et_val (ex_callD (ps := P__law_safe) d__law_safe hr (by omega) hq rfl (takes_of rfl rfl rfl rfl) (ea_cons (ex_var (pv 0)) (ea_cons (ex_var (pv 1)) (ea_cons (ex_var (pv 2)) (ea_cons (ex_var (pv 7)) (ea_nil)))))))))) (es_seq (es_set (i := 9) S__law_fewest.nd rfl (by first | exact .inl rfl | exact .inr rfl) (ex_callIO (ps := P__law_fewest) d__law_fewest hr (by omega) hq rfl (takes_of rfl rfl rfl rfl) (eao_cons (ex_var (pv 0)) (eao_cons (ex_var (pv 1)) (eao_cons (ex_bin op_addD (ex_var (pv 2)) (ex_var (pv 7))) (eao_last (pv 3)))))))
      (es_one (es_if (et_bool (ew_or (et_isN (ex_var (pv 6))) (ew_or1 (et_cmp (op_ltD hu) (ex_bin op_addD (ex_var (pv 9)) (ex_int)) (ex_var (pv 6)))))) (es_one (es_set (i := 6) S__law_fewest.nd rfl (by first | exact .inl rfl | exact .inr rfl) (ex_bin op_addD (ex_var (pv 9)) (ex_int)))) (es_nil)))) (es_nil))))
      (es_one (es_setK hu (pv 3) (ex_var (pv 4)) (ex_var (pv 6))))))) (es_nil))
      (es_one (es_ret (ex_ixB hu (pv 3) (ex_var (pv 4)) (fun _ _ => rfl)))))), hm, Fn.kp, hb⟩
theorem ok__law_fewest (Z : Zs K mg) (Er : Es P K mg Bn fn) (d__law_sets : Def0 P w K mg base 1 "_law_sets" P__law_sets F__law_sets) (d__law_safe : Def0 P w K mg base 2 "_law_safe" P__law_safe F__law_safe) {f : Addr} {fd : FuncData} (Fn : Fun K "_law_fewest" "_law_fewest" st__law_fewest f fd) (hm : mg "_law_fewest" = some (.ref f)) (hb : Binds K fd P__law_fewest []) : ∀ m : Nat, DefIO P w K mg base (2 + m) "_law_fewest" P__law_fewest 3 (F__law_fewest m)
  | 0 => ⟨f, fd, fnG_bad, hm, Fn.kp, hb⟩
  | m + 1 => step__law_fewest Z Er d__law_sets d__law_safe Fn hm hb (F__law_fewest m) (2 + m) (by omega) (ok__law_fewest Z Er d__law_sets d__law_safe Fn hm hb m)
theorem ok_least_rounds (Z : Zs K mg) (Er : Es P K mg Bn fn) (d_check_change : Def0 P w K mg base 2 "check_change" P_check_change F_check_change) (d_least_from : DefIO P w K mg base 11 "least_from" P_least_from 3 (F_least_from 9)) {f : Addr} {fd : FuncData} (Fn : Fun K "least_rounds" "least_rounds" st_least_rounds f fd) (hm : mg "least_rounds" = some (.ref f)) (hb : Binds K fd P_least_rounds []) : Def0 P w K mg base 12 "least_rounds" P_least_rounds F_least_rounds :=
  ⟨f, fd, fnG_pure Fn S_least_rounds (fun ds _ => rfl) (fun cdv A outer s H E hr hq =>
    have hu := hr.units
    es_seq (es_drop (ex_callD (ps := P_check_change) d_check_change hr (by omega) hq rfl (takes_of rfl rfl rfl rfl) (ea_cons (ex_var (pv 0)) (ea_cons (ex_var (pv 1)) (ea_nil)))))
      (es_one (es_ret (EN.ex (en_comp rfl S_least_rounds.nd (own := [("now", 2)]) (ei_it (ex_callION (ps := P_least_from) d_least_from hr (by omega) hq rfl (takes_of rfl rfl rfl rfl) (ean_cons (ex_var (pv 0)) (ean_cons (ex_var (pv 1)) (ean_cons (ex_tup (ea_nil)) (ean_last (en_dict0))))))) (blkOk_by (own := [("now", 2)]) (N := N_least_rounds) (sc := defScope st_least_rounds) (by decide +kernel)) (us := [2]) (by decide) (fun _ _ _ _ _ => eg_name (i := 2) S_least_rounds.nd rfl (by first | exact .inl rfl | exact .inr rfl)) (fun _ _ _ _ _ => eq_nil) (fun _ _ _ _ _ => EN.ex (en_bty (cr_listD2 rfl) rfl Z.z_list rfl (ea_cons (ex_var (pv 2)) (ea_nil))))))))), hm, Fn.kp, hb⟩
theorem ok__law_least (Z : Zs K mg) (Er : Es P K mg Bn fn) (d__law_fewest : DefIO P w K mg base 11 "_law_fewest" P__law_fewest 3 (F__law_fewest 9)) (d__law_sets : Def0 P w K mg base 1 "_law_sets" P__law_sets F__law_sets) (d__law_safe : Def0 P w K mg base 2 "_law_safe" P__law_safe F__law_safe) {f : Addr} {fd : FuncData} (Fn : Fun K "_law_least" "_law_least" st__law_least f fd) (hm : mg "_law_least" = some (.ref f)) (hb : Binds K fd P__law_least []) : DefIO P w K mg base 12 "_law_least" P__law_least 2 F__law_least :=
  ⟨f, fd, fnG_io (n := 2) Fn S__law_least rfl (by decide) (fun cdv A outer s H E hr hq =>
    have hu := hr.units
    es_seq (es_set (i := 3) S__law_least.nd rfl (by first | exact .inl rfl | exact .inr rfl) (EN.ex (en_lst (ea_nil))))
      (es_seq (es_own (i := 4) S__law_least.nd rfl (by first | exact .inl rfl | exact .inr rfl) (en_lst (ea_nil)))
      (es_seq (es_while (n := 200) PassesOwn.leaving (et_cmp (op_gtD hu) (ex_callIO (ps := P__law_fewest) d__law_fewest hr (by omega) hq rfl (takes_of rfl rfl rfl rfl) (eao_cons (ex_var (pv 0)) (eao_cons (ex_var (pv 1)) (eao_cons (ex_var (pv 3)) (eao_last (pv 2)))))) (ex_int)) (es_seq (es_setComp (i := 5) rfl S__law_least.nd rfl rfl (sw_true rfl rfl rfl (by decide +kernel)) (own := [("router", 7)]) (ei_it (EN.ex (en_blt (cr_sortedD2 rfl hu) rfl Z.z_sorted rfl (ea_cons (ex_var (pv 0)) (ea_nil))))) (blkOk_by (own := [("router", 7)]) (N := N__law_least) (sc := defScope st__law_least) (by decide +kernel)) (us := [7]) (by decide) (fun _ _ _ _ _ => eg_name (i := 7) S__law_least.nd rfl (by first | exact .inl rfl | exact .inr rfl)) (fun _ _ _ _ _ => eq_one (et_bool (ew_and (et_cmp (op_neD2 hu) (ex_ix hu (ex_var (pv 0)) (ex_var (pv 7)) (fun _ _ => rfl)) (ex_ix hu (ex_var (pv 1)) (ex_var (pv 7)) (fun _ _ => rfl))) (ew_and1 (et_cmp (op_ninD2 hu) (ex_var (pv 7)) (ex_var (pv 3))))))) (fun _ _ _ _ _ => ex_var (pv 7)))
      (es_seq (es_setComp (i := 6) rfl S__law_least.nd rfl rfl (sw_true rfl rfl rfl (by decide +kernel)) (own := [("now", 8)]) (ei_it (ex_callD (ps := P__law_sets) d__law_sets hr (by omega) hq rfl (takes_of rfl rfl rfl rfl) (ea_cons (ex_var (pv 5)) (ea_nil)))) (blkOk_by (own := [("now", 8)]) (N := N__law_least) (sc := defScope st__law_least) (by decide +kernel)) (us := [8]) (by decide) (fun _ _ _ _ _ => eg_name (i := 8) S__law_least.nd rfl (by first | exact .inl rfl | exact .inr rfl)) (fun _ _ _ _ _ => eq_one (et_bool (ew_and (et_cmp (op_neD2 hu) (ex_var (pv 8)) (EN.ex (en_lst (ea_nil)))) (ew_and (et_val (ex_callD (ps := P__law_safe) d__law_safe hr (by omega) hq rfl takes0 (ea_cons (ex_var (pv 0)) (ea_cons (ex_var (pv 1)) (ea_cons (ex_var (pv 3)) (ea_cons (ex_var (pv 8)) (ea_nil))))))) (ew_and1 (et_cmp (op_eqD2 hu) (ex_callIO (ps := P__law_fewest) d__law_fewest hr (by omega) hq rfl takes0 (eao_cons (ex_var (pv 0)) (eao_cons (ex_var (pv 1)) (eao_cons (ex_bin op_addD (ex_var (pv 3)) (ex_var (pv 8))) (eao_last (pv 2)))))) (ex_bin op_subD (ex_callIO (ps := P__law_fewest) d__law_fewest hr (by omega) hq rfl takes0 (eao_cons (ex_var (pv 0)) (eao_cons (ex_var (pv 1)) (eao_cons (ex_var (pv 3)) (eao_last (pv 2)))))) (ex_int)))))))) (fun _ _ _ _ _ => ex_var (pv 8)))
      (es_seq (es_drop (ex_mutL PySem.F.slot_list_append PySem.F.type_list_append mt_append mut_app (pv 4) (ea_cons (ex_ix hu (ex_var (pv 6)) (ex_int) (fun _ _ => rfl)) (ea_nil))))
      (es_one (es_set (i := 3) S__law_least.nd rfl (by first | exact .inl rfl | exact .inr rfl) (ex_bin op_addD (ex_var (pv 3)) (ex_ix hu (ex_var (pv 6)) (ex_int) (fun _ _ => rfl)))))))))
      (es_one (es_ret (ex_var (pv 4))))))), hm, Fn.kp, hb⟩
theorem ok__law_fault (Z : Zs K mg) (Er : Es P K mg Bn fn) (d_check_change : Def0 P w K mg base 2 "check_change" P_check_change F_check_change) (d_is_safe : Def0 P w K mg base 3 "is_safe" P_is_safe F_is_safe) (d_are_rounds : Def0 P w K mg base 3 "are_rounds" P_are_rounds F_are_rounds) (d_hops_at : Def0 P w K mg base 3 "hops_at" P_hops_at F_hops_at) (d_least_rounds : Def0 P w K mg base 12 "least_rounds" P_least_rounds F_least_rounds) (d_one_by_one : Def0 P w K mg base 3 "one_by_one" P_one_by_one F_one_by_one) {f : Addr} {fd : FuncData} (Fn : Fun K "_law_fault" "_law_fault" st__law_fault f fd) (hm : mg "_law_fault" = some (.ref f)) (hb : Binds K fd P__law_fault []) : Def0 P w K mg base 13 "_law_fault" P__law_fault F__law_fault :=
  ⟨f, fd, fnG_pure Fn S__law_fault (fun ds _ => rfl) (fun cdv A outer s H E hr hq =>
    have hu := hr.units
    es_seq ((by obtain ⟨D0, g0, _⟩ := Er.c_BadChange; exact es_try rfl rfl S__law_fault.nd (takes_of rfl rfl rfl rfl) (fun W pn xe tk hp => es_one (es_if (et_cmp (op_eqD2 hu) (ex_var (pv 0)) (ex_int)) (es_one (es_drop (ex_callD (ps := P_check_change) d_check_change hr (by omega) hq rfl tk (ea_cons (ex_var (pv 1)) (ea_cons (ex_var (pv 2)) (ea_nil)))))) (es_one (es_if (et_cmp (op_eqD2 hu) (ex_var (pv 0)) (ex_int)) (es_one (es_drop (ex_callD (ps := P_is_safe) d_is_safe hr (by omega) hq rfl tk (ea_cons (ex_var (pv 1)) (ea_cons (ex_var (pv 2)) (ea_cons (EN.ex (en_lst (ea_nil))) (ea_cons (EN.ex (en_lst (ea_nil))) (ea_nil)))))))) (es_one (es_if (et_cmp (op_eqD2 hu) (ex_var (pv 0)) (ex_int)) (es_one (es_drop (ex_callD (ps := P_are_rounds) d_are_rounds hr (by omega) hq rfl tk (ea_cons (ex_var (pv 1)) (ea_cons (ex_var (pv 2)) (ea_cons (EN.ex (en_lst (ea_nil))) (ea_nil))))))) (es_one (es_if (et_cmp (op_eqD2 hu) (ex_var (pv 0)) (ex_int)) (es_one (es_drop (ex_callD (ps := P_hops_at) d_hops_at hr (by omega) hq rfl tk (ea_cons (ex_var (pv 1)) (ea_cons (ex_var (pv 2)) (ea_cons (EN.ex (en_lst (ea_nil))) (ea_nil))))))) (es_one (es_drop (ex_callFs (fs_cons (ps := P_least_rounds) d_least_rounds (by decide) rfl (fs_cons (ps := P_one_by_one) d_one_by_one (by decide) rfl (fs_nil))) (by decide) hr hq tk (ex_bin op_subD (ex_var (pv 0)) (ex_int)) (ea_cons (ex_var (pv 1)) (ea_cons (ex_var (pv 2)) (ea_nil))) (fun _ _ => rfl)))))))))))) (.cons rfl rfl ⟨rfl, by decide, .inl g0⟩ (all_cons (let ⟨C, a, b, c⟩ := Er.x_BadChange_BadChange _ g0; ⟨_, _, C, a, b, c⟩) (all_nil)) (all_nil) (su_at (pv 3) (fun _ _ _ => pv 3)) (.nil))))
      (es_one (es_ret (ex_none)))), hm, Fn.kp, hb⟩
theorem fn_law (Z : Zs K mg) (Er : Es P K mg Bn fn) (d__law_hops : Def0 P w K mg base 2 "_law_hops" P__law_hops F__law_hops) (d_least_rounds : Def0 P w K mg base 12 "least_rounds" P_least_rounds F_least_rounds) (d_one_by_one : Def0 P w K mg base 3 "one_by_one" P_one_by_one F_one_by_one) (d__law_mix : Def0 P w K mg base 1 "_law_mix" P__law_mix F__law_mix) (d__law_sets : Def0 P w K mg base 1 "_law_sets" P__law_sets F__law_sets) (d_are_rounds : Def0 P w K mg base 3 "are_rounds" P_are_rounds F_are_rounds) (d_check_change : Def0 P w K mg base 2 "check_change" P_check_change F_check_change) (d__law_least : DefIO P w K mg base 12 "_law_least" P__law_least 2 (F__law_least)) (d__law_round : Def0 P w K mg base 1 "_law_round" P__law_round F__law_round) (d_is_safe : Def0 P w K mg base 3 "is_safe" P_is_safe F_is_safe) (d__law_safe : Def0 P w K mg base 2 "_law_safe" P__law_safe F__law_safe) (d__law_fault : Def0 P w K mg base 13 "_law_fault" P__law_fault F__law_fault) (d_hops_at : Def0 P w K mg base 3 "hops_at" P_hops_at F_hops_at) (d__law_draws : DefS P w K mg base 1 "_law_draws" P__law_draws F__law_draws) {f : Addr} {fd : FuncData} (Fn : Fun K "law" "law" st_law f fd) : FnG P w K mg base 14 f fd P_law (spS K w mg F_law) :=
  fnG_script Fn S_law rfl (by decide) (fun cdv A outer s H E hr hq =>
    have hu := hr.units
    es_seq (es_set (i := 1) S_law.nd rfl (by first | exact .inl rfl | exact .inr rfl) (ex_callS d__law_draws hr (by omega) hq rfl (takes_of rfl rfl rfl rfl) (pv 0)))
      (es_seq (es_set (i := 2) S_law.nd rfl (by first | exact .inl rfl | exact .inr rfl) (ex_bin op_addD (ex_int) (ex_callD (ps := P__law_mix) d__law_mix hr (by omega) hq rfl (takes_of rfl rfl rfl rfl) (ea_cons (ex_var (pv 1)) (ea_cons (ex_int) (ea_cons (ex_int) (ea_nil)))))))
      (es_seq (es_set (i := 3) S_law.nd rfl (by first | exact .inl rfl | exact .inr rfl) (ex_callD (ps := P__law_hops) d__law_hops hr (by omega) hq rfl (takes_of rfl rfl rfl rfl) (ea_cons (ex_var (pv 1)) (ea_cons (ex_int) (ea_cons (ex_var (pv 2)) (ea_nil))))))
      (es_seq (es_set (i := 4) S_law.nd rfl (by first | exact .inl rfl | exact .inr rfl) (ex_callD (ps := P__law_hops) d__law_hops hr (by omega) hq rfl (takes_of rfl rfl rfl rfl) (ea_cons (ex_var (pv 1)) (ea_cons (ex_int) (ea_cons (ex_var (pv 2)) (ea_nil))))))
      (es_seq (es_set (i := 5) S_law.nd rfl (by first | exact .inl rfl | exact .inr rfl) (ex_blt (cr_reprD2 hq hu) rfl Z.z_repr rfl (ea_cons (ex_tup (ea_cons (ex_var (pv 3)) (ea_cons (ex_var (pv 4)) (ea_nil)))) (ea_nil))))
      (es_seq (es_set (i := 6) S_law.nd rfl (by first | exact .inl rfl | exact .inr rfl) (ex_callD (ps := P_least_rounds) d_least_rounds hr (by omega) hq rfl (takes_of rfl rfl rfl rfl) (ea_cons (ex_var (pv 3)) (ea_cons (ex_var (pv 4)) (ea_nil)))))
      (es_seq (es_if (et_bool (ew_or (et_cmp (op_neD2 hu) (ex_blt (cr_reprD2 hq hu) rfl Z.z_repr rfl (ea_cons (ex_var (pv 6)) (ea_nil))) (ex_blt (cr_reprD2 hq hu) rfl Z.z_repr rfl (ea_cons (ex_callION (ps := P__law_least) d__law_least hr (by omega) hq rfl (takes_of rfl rfl rfl rfl) (ean_cons (ex_var (pv 3)) (ean_cons (ex_var (pv 4)) (ean_last (en_dict0))))) (ea_nil)))) (ew_or (et_cmp op_isntBD (ex_callD (ps := P_are_rounds) d_are_rounds hr (by omega) hq rfl (takes_of rfl rfl rfl rfl) (ea_cons (ex_var (pv 3)) (ea_cons (ex_var (pv 4)) (ea_cons (ex_var (pv 6)) (ea_nil))))) (ex_bl)) (ew_or1 (et_notN (ex_callD (ps := P_check_change) d_check_change hr (by omega) hq rfl (takes_of rfl rfl rfl rfl) (ea_cons (ex_var (pv 3)) (ea_cons (ex_var (pv 4)) (ea_nil))))))))) (es_one (es_ret (ex_bl))) (es_nil))
      (es_seq (es_set (i := 7) S_law.nd rfl (by first | exact .inl rfl | exact .inr rfl) (EN.ex (en_lst (ea_nil))))
      (es_seq (es_for (vs := [8]) PassesOwn.leaving rfl (ei_it (ex_var (pv 6))) (eg_name (i := 8) S_law.nd rfl (by first | exact .inl rfl | exact .inr rfl)) (es_seq (es_for (vs := [15]) PassesOwn.leaving rfl (ei_it (ex_callD (ps := P__law_sets) d__law_sets hr (by omega) hq rfl (takes_of rfl rfl rfl rfl) (ea_cons (ex_var (pv 8)) (ea_nil)))) (eg_name (i := 15) S_law.nd rfl (by first | exact .inl rfl | exact .inr rfl)) (es_one (es_if (et_bool (ew_or (et_val (ex_callD (ps := P__law_round) d__law_round hr (by omega) hq rfl (takes_of rfl rfl rfl rfl) (ea_cons (ex_callD (ps := P_hops_at) d_hops_at hr (by omega) hq rfl (takes_of rfl rfl rfl rfl) (ea_cons (ex_var (pv 3)) (ea_cons (ex_var (pv 4)) (ea_cons (ex_bin op_addD (ex_var (pv 7)) (ex_var (pv 15))) (ea_nil))))) (ea_nil)))) (ew_or1 (et_cmp (op_neD2 hu) (ex_callD (ps := P_hops_at) d_hops_at hr (by omega) hq rfl (takes_of rfl rfl rfl rfl) (ea_cons (ex_var (pv 3)) (ea_cons (ex_var (pv 4)) (ea_cons (ex_bin op_addD (ex_var (pv 7)) (ex_var (pv 15))) (ea_nil))))) (EN.ex (en_bty (cr_dictD rfl hu) rfl Z.z_dict rfl (ea_cons (EN.ex (en_comp rfl S_law.nd (own := [("one", 18)]) (ei_it (ex_var (pv 3))) (blkOk_by (own := [("one", 18)]) (N := N_law) (sc := defScope st_law) (by decide +kernel)) (us := [18]) (by decide) (fun _ _ _ _ _ => eg_name (i := 18) S_law.nd rfl (by first | exact .inl rfl | exact .inr rfl)) (fun _ _ _ _ _ => eq_nil) (fun _ _ _ _ _ => ex_tup (ea_cons (ex_var (pv 18)) (ea_cons (ex_ix hu (EN.ex (en_lst (ea_cons (ex_ix hu (ex_var (pv 3)) (ex_var (pv 18)) (fun _ _ => rfl)) (ea_cons (ex_ix hu (ex_var (pv 4)) (ex_var (pv 18)) (fun _ _ => rfl)) (ea_nil))))) (ex_bty cr_int rfl Z.z_int rfl (ea_cons (ex_cmp (op_inD2 hu) (ex_var (pv 18)) (ex_bin op_addD (ex_var (pv 7)) (ex_var (pv 15)))) (ea_nil))) (fun _ _ => rfl)) (ea_nil)))))) (ea_nil)))))))) (es_one (es_ret (ex_bl))) (es_nil))))
      (es_one (es_set (i := 7) S_law.nd rfl (by first | exact .inl rfl | exact .inr rfl) (ex_bin op_addD (ex_var (pv 7)) (ex_var (pv 8)))))))
      (es_seq (es_set (i := 9) S_law.nd rfl (by first | exact .inl rfl | exact .inr rfl) (ex_callD (ps := P_one_by_one) d_one_by_one hr (by omega) hq rfl (takes_of rfl rfl rfl rfl) (ea_cons (ex_var (pv 3)) (ea_cons (ex_var (pv 4)) (ea_nil)))))
      (es_seq (es_setComp (i := 10) rfl S_law.nd rfl rfl (sw_true rfl rfl rfl (by decide +kernel)) (own := [("router", 17)]) (ei_it (EN.ex (en_blt (cr_sortedD2 rfl hu) rfl Z.z_sorted rfl (ea_cons (ex_var (pv 3)) (ea_nil))))) (blkOk_by (own := [("router", 17)]) (N := N_law) (sc := defScope st_law) (by decide +kernel)) (us := [17]) (by decide) (fun _ _ _ _ _ => eg_name (i := 17) S_law.nd rfl (by first | exact .inl rfl | exact .inr rfl)) (fun _ _ _ _ _ => eq_one (et_cmp (op_neD2 hu) (ex_ix hu (ex_var (pv 3)) (ex_var (pv 17)) (fun _ _ => rfl)) (ex_ix hu (ex_var (pv 4)) (ex_var (pv 17)) (fun _ _ => rfl)))) (fun _ _ _ _ _ => ex_var (pv 17)))
      (es_seq (es_if (et_bool (ew_or (et_cmp op_isntBD (ex_callD (ps := P_are_rounds) d_are_rounds hr (by omega) hq rfl (takes_of rfl rfl rfl rfl) (ea_cons (ex_var (pv 3)) (ea_cons (ex_var (pv 4)) (ea_cons (ex_var (pv 9)) (ea_nil))))) (ex_bl)) (ew_or (et_cmp (op_neD2 hu) (EN.ex (en_blt (cr_sortedD2 rfl hu) rfl Z.z_sorted rfl (ea_cons (EN.ex (en_comp rfl S_law.nd (own := [("now", 8)]) (ei_it (ex_var (pv 9))) (blkOk_by (own := [("now", 8)]) (N := N_law) (sc := defScope st_law) (by decide +kernel)) (us := [8]) (by decide) (fun _ _ _ _ _ => eg_name (i := 8) S_law.nd rfl (by first | exact .inl rfl | exact .inr rfl)) (fun _ _ _ _ _ => eq_nil) (fun _ _ _ _ _ => ex_ix hu (ex_var (pv 8)) (ex_int) (fun _ _ => rfl)))) (ea_nil)))) (ex_var (pv 10))) (ew_or1 (et_cmp (op_neD2 hu) (EN.ex (en_comp rfl S_law.nd (own := [("now", 8)]) (ei_it (ex_var (pv 9))) (blkOk_by (own := [("now", 8)]) (N := N_law) (sc := defScope st_law) (by decide +kernel)) (us := [8]) (by decide) (fun _ _ _ _ _ => eg_name (i := 8) S_law.nd rfl (by first | exact .inl rfl | exact .inr rfl)) (fun _ _ _ _ _ => eq_one (et_cmp (op_neD2 hu) (ex_blt cr_lenD rfl Z.z_len rfl (ea_cons (ex_var (pv 8)) (ea_nil))) (ex_int))) (fun _ _ _ _ _ => ex_var (pv 8)))) (EN.ex (en_lst (ea_nil)))))))) (es_one (es_ret (ex_bl))) (es_nil))
      (es_seq (es_for (vs := [11]) PassesOwn.leaving rfl (ei_rng1 rfl Z.z_range (ea_cons (ex_int) (ea_nil))) (eg_name (i := 11) S_law.nd rfl (by first | exact .inl rfl | exact .inr rfl)) (es_seq (es_set (i := 15) S_law.nd rfl (by first | exact .inl rfl | exact .inr rfl) (EN.ex (en_comp rfl S_law.nd (own := [("router", 17)]) (ei_it (EN.ex (en_blt (cr_sortedD2 rfl hu) rfl Z.z_sorted rfl (ea_cons (ex_var (pv 3)) (ea_nil))))) (blkOk_by (own := [("router", 17)]) (N := N_law) (sc := defScope st_law) (by decide +kernel)) (us := [17]) (by decide) (fun _ _ _ _ _ => eg_name (i := 17) S_law.nd rfl (by first | exact .inl rfl | exact .inr rfl)) (fun _ _ _ _ _ => eq_one (et_cmp (op_eqD2 hu) (ex_callD (ps := P__law_mix) d__law_mix hr (by omega) hq rfl takes0 (ea_cons (ex_var (pv 1)) (ea_cons (ex_bin op_addD (ex_bin op_addD (ex_int) (ex_bin op_mulD (ex_int) (ex_var (pv 11)))) (ex_var (pv 17))) (ea_cons (ex_int) (ea_nil))))) (ex_int))) (fun _ _ _ _ _ => ex_var (pv 17)))))
      (es_seq (es_setComp (i := 16) rfl S_law.nd rfl rfl (sw_true rfl rfl rfl (by decide +kernel)) (own := [("router", 17)]) (ei_it (EN.ex (en_blt (cr_sortedD2 rfl hu) rfl Z.z_sorted rfl (ea_cons (ex_var (pv 3)) (ea_nil))))) (blkOk_by (own := [("router", 17)]) (N := N_law) (sc := defScope st_law) (by decide +kernel)) (us := [17]) (by decide) (fun _ _ _ _ _ => eg_name (i := 17) S_law.nd rfl (by first | exact .inl rfl | exact .inr rfl)) (fun _ _ _ _ _ => eq_one (et_bool (ew_and (et_cmp (op_ninD2 hu) (ex_var (pv 17)) (ex_var (pv 15))) (ew_and1 (et_cmp (op_eqD2 hu) (ex_callD (ps := P__law_mix) d__law_mix hr (by omega) hq rfl takes0 (ea_cons (ex_var (pv 1)) (ea_cons (ex_bin op_addD (ex_bin op_addD (ex_int) (ex_bin op_mulD (ex_int) (ex_var (pv 11)))) (ex_var (pv 17))) (ea_cons (ex_int) (ea_nil))))) (ex_int)))))) (fun _ _ _ _ _ => ex_var (pv 17)))
      (es_one (es_if (et_cmp (op_neD2 hu) (ex_blt (cr_reprD2 hq hu) rfl Z.z_repr rfl (ea_cons (ex_callD (ps := P_is_safe) d_is_safe hr (by omega) hq rfl (takes_of rfl rfl rfl rfl) (ea_cons (ex_var (pv 3)) (ea_cons (ex_var (pv 4)) (ea_cons (ex_var (pv 15)) (ea_cons (ex_var (pv 16)) (ea_nil)))))) (ea_nil))) (ex_blt (cr_reprD2 hq hu) rfl Z.z_repr rfl (ea_cons (ex_callD (ps := P__law_safe) d__law_safe hr (by omega) hq rfl (takes_of rfl rfl rfl rfl) (ea_cons (ex_var (pv 3)) (ea_cons (ex_var (pv 4)) (ea_cons (ex_var (pv 15)) (ea_cons (ex_var (pv 16)) (ea_nil)))))) (ea_nil)))) (es_one (es_ret (ex_bl))) (es_nil))))))
      (es_seq (es_if (et_bool (ew_and (et_cmp (op_neD2 hu) (ex_var (pv 10)) (EN.ex (en_lst (ea_nil)))) (ew_and1 (et_bool (ew_or (et_cmp (op_neD2 hu) (ex_callD (ps := P_are_rounds) d_are_rounds hr (by omega) hq rfl (takes_of rfl rfl rfl rfl) (ea_cons (ex_var (pv 3)) (ea_cons (ex_var (pv 4)) (ea_cons (EN.ex (en_lst (ea_cons (ex_var (pv 10)) (ea_nil)))) (ea_nil))))) (ex_callD (ps := P__law_safe) d__law_safe hr (by omega) hq rfl (takes_of rfl rfl rfl rfl) (ea_cons (ex_var (pv 3)) (ea_cons (ex_var (pv 4)) (ea_cons (EN.ex (en_lst (ea_nil))) (ea_cons (ex_var (pv 10)) (ea_nil))))))) (ew_or (et_val (ex_callD (ps := P_are_rounds) d_are_rounds hr (by omega) hq rfl (takes_of rfl rfl rfl rfl) (ea_cons (ex_var (pv 3)) (ea_cons (ex_var (pv 4)) (ea_cons (ex_bin op_addD (ex_var (pv 6)) (EN.ex (en_lst (ea_cons (ex_var (pv 10)) (ea_nil))))) (ea_nil)))))) (ew_or1 (et_val (ex_callD (ps := P_are_rounds) d_are_rounds hr (by omega) hq rfl (takes_of rfl rfl rfl rfl) (ea_cons (ex_var (pv 3)) (ea_cons (ex_var (pv 4)) (ea_cons (ex_slice (ex_var (pv 6)) (eo_none) (eo_some (ex_un un_negD (ex_int)))) (ea_nil))))))))))))) (es_one (es_ret (ex_bl))) (es_nil))
      (es_seq (es_set (i := 12) S_law.nd rfl (by first | exact .inl rfl | exact .inr rfl) (EN.ex (en_dict hu (ek_cons (ex_int) (EN.ex (en_lst (ea_nil))) (ek_cons (ex_int) (EN.ex (en_lst (ea_cons (ex_int) (ea_nil)))) (ek_cons (ex_int) (EN.ex (en_lst (ea_cons (ex_int) (ea_nil)))) (ek_nil)))) (by simp) (by decide))))
      (es_seq (es_for (vs := [13]) PassesOwn.leaving rfl (ei_it (EN.ex (en_lst (ea_cons (EN.ex (en_dict0)) (ea_cons (EN.ex (en_dict hu (ek_cons (ex_int) (EN.ex (en_lst (ea_cons (ex_int) (ea_nil)))) (ek_nil)) (by simp) (by decide))) (ea_cons (EN.ex (en_dict hu (ek_cons (ex_int) (EN.ex (en_lst (ea_nil))) (ek_cons (ex_int) (EN.ex (en_lst (ea_nil))) (ek_nil))) (by simp) (by decide))) (ea_cons (EN.ex (en_dict hu (ek_cons (ex_int) (EN.ex (en_lst (ea_nil))) (ek_cons (ex_int) (EN.ex (en_lst (ea_cons (ex_int) (ea_nil)))) (ek_nil))) (by simp) (by decide))) (ea_cons (EN.ex (en_dict hu (ek_cons (ex_int) (EN.ex (en_lst (ea_nil))) (ek_cons (ex_int) (EN.ex (en_lst (ea_cons (ex_int) (ea_nil)))) (ek_nil))) (by simp) (by decide))) (ea_cons (EN.ex (en_dict hu (ek_cons (ex_int) (EN.ex (en_lst (ea_nil))) (ek_cons (ex_int) (EN.ex (en_lst (ea_cons (ex_int) (ea_nil)))) (ek_cons (ex_int) (EN.ex (en_lst (ea_cons (ex_int) (ea_cons (ex_int) (ea_nil))))) (ek_nil)))) (by simp) (by decide))) (ea_nil)))))))))) (eg_name (i := 13) S_law.nd rfl (by first | exact .inl rfl | exact .inr rfl)) (es_one (es_for (vs := [14]) PassesOwn.leaving rfl (ei_rng1 rfl Z.z_range (ea_cons (ex_int) (ea_nil))) (eg_name (i := 14) S_law.nd rfl (by first | exact .inl rfl | exact .inr rfl)) (es_one (es_if (et_bool (ew_or (et_cmp (op_neD2 hu) (ex_callD (ps := P__law_fault) d__law_fault hr (by omega) hq rfl (takes_of rfl rfl rfl rfl) (ea_cons (ex_var (pv 14)) (ea_cons (ex_var (pv 13)) (ea_cons (EN.ex (en_dict hu (ek_cons (ex_int) (EN.ex (en_lst (ea_cons (ex_int) (ea_nil)))) (ek_nil)) (by simp) (by decide))) (ea_nil))))) (ex_int)) (ew_or1 (et_cmp (op_neD2 hu) (ex_callD (ps := P__law_fault) d__law_fault hr (by omega) hq rfl (takes_of rfl rfl rfl rfl) (ea_cons (ex_var (pv 14)) (ea_cons (ex_var (pv 12)) (ea_cons (ex_var (pv 13)) (ea_nil))))) (ex_int))))) (es_one (es_ret (ex_bl))) (es_nil))))))
      (es_seq (es_for (vs := [14]) PassesOwn.leaving rfl (ei_rng1 rfl Z.z_range (ea_cons (ex_int) (ea_nil))) (eg_name (i := 14) S_law.nd rfl (by first | exact .inl rfl | exact .inr rfl)) (es_one (es_if (et_bool (ew_or (et_cmp (op_neD2 hu) (ex_callD (ps := P__law_fault) d__law_fault hr (by omega) hq rfl (takes_of rfl rfl rfl rfl) (ea_cons (ex_var (pv 14)) (ea_cons (EN.ex (en_dict hu (ek_cons (ex_int) (EN.ex (en_lst (ea_nil))) (ek_cons (ex_int) (EN.ex (en_lst (ea_cons (ex_int) (ea_nil)))) (ek_cons (ex_int) (EN.ex (en_lst (ea_cons (ex_int) (ea_nil)))) (ek_nil)))) (by simp) (by decide))) (ea_cons (ex_var (pv 12)) (ea_nil))))) (ex_int)) (ew_or (et_cmp (op_neD2 hu) (ex_callD (ps := P__law_fault) d__law_fault hr (by omega) hq rfl (takes_of rfl rfl rfl rfl) (ea_cons (ex_var (pv 14)) (ea_cons (ex_var (pv 12)) (ea_cons (EN.ex (en_dict hu (ek_cons (ex_int) (EN.ex (en_lst (ea_nil))) (ek_cons (ex_int) (EN.ex (en_lst (ea_cons (ex_int) (ea_nil)))) (ek_cons (ex_int) (EN.ex (en_lst (ea_cons (ex_int) (ea_nil)))) (ek_nil)))) (by simp) (by decide))) (ea_nil))))) (ex_int)) (ew_or1 (et_cmp (op_neD2 hu) (ex_callD (ps := P__law_fault) d__law_fault hr (by omega) hq rfl (takes_of rfl rfl rfl rfl) (ea_cons (ex_var (pv 14)) (ea_cons (ex_var (pv 12)) (ea_cons (EN.ex (en_dict hu (ek_cons (ex_int) (EN.ex (en_lst (ea_nil))) (ek_cons (ex_int) (EN.ex (en_lst (ea_cons (ex_int) (ea_nil)))) (ek_nil))) (by simp) (by decide))) (ea_nil))))) (ex_int)))))) (es_one (es_ret (ex_bl))) (es_nil))))
      (es_one (es_ret (ex_and (ex_cmp (op_eqD2 hu) (ex_blt (cr_reprD2 hq hu) rfl Z.z_repr rfl (ea_cons (ex_tup (ea_cons (ex_var (pv 3)) (ea_cons (ex_var (pv 4)) (ea_nil)))) (ea_nil))) (ex_var (pv 5))) (ex_and (ex_cmp (op_eqD2 hu) (ex_callD (ps := P_least_rounds) d_least_rounds hr (by omega) hq rfl (takes_of rfl rfl rfl rfl) (ea_cons (ex_var (pv 12)) (ea_cons (ex_var (pv 12)) (ea_nil)))) (EN.ex (en_lst (ea_nil)))) (ex_one (ex_cmp (op_eqD2 hu) (ex_callD (ps := P_one_by_one) d_one_by_one hr (by omega) hq rfl (takes_of rfl rfl rfl rfl) (ea_cons (ex_var (pv 12)) (ea_cons (ex_var (pv 12)) (ea_nil)))) (EN.ex (en_lst (ea_nil))))))))))))))))))))))))))
end
section
theorem all_mk {l : PySem.W.OpenLaw} {w : World} {K : PySem.W.Frag} {h : Heap} {mg : Str → Option Value} {fa f0 f1 f2 f3 f4 f5 f6 f7 f8 f9 f10 f11 f12 f13 f14 f15 f16 f17 f18 f19 f20 f21 f22 f23 : Addr} (X : K.In h) (G : h.Ns mainGlobals mg) (hfa : mg "law" = some (.ref fa))
    {od0 an0 od1 an1 od2 an2 od3 an3 od4 an4 od5 an5 od6 an6 od7 an7 od8 an8 od9 an9 od10 an10 od11 an11 od12 an12 od13 an13 od14 an14 od15 an15 od16 an16 od17 an17 od18 an18 od19 an19 od20 an20 od21 an21 od22 an22 od23 an23 : Option Addr} {sl0 sl1 sl2 sl3 sl4 sl5 sl6 sl7 sl8 sl9 sl10 sl11 sl12 sl13 sl14 sl15 sl16 sl17 sl18 sl19 sl20 sl21 sl22 sl23 : Array (Option Value)} {oc0 kV0 dc0 pm0 cd0 ct0 oc1 kV1 dc1 pm1 cd1 ct1 oc2 kV2 dc2 pm2 cd2 ct2 oc3 kV3 dc3 pm3 cd3 ct3 oc4 kV4 dc4 pm4 cd4 ct4 oc5 kV5 dc5 pm5 cd5 ct5 oc6 kV6 dc6 pm6 cd6 ct6 oc7 kV7 dc7 pm7 cd7 ct7 oc8 kV8 dc8 pm8 cd8 ct8 oc9 kV9 dc9 pm9 cd9 ct9 oc10 kV10 dc10 pm10 cd10 ct10 oc11 kV11 dc11 pm11 cd11 ct11 oc12 kV12 dc12 pm12 cd12 ct12 oc13 kV13 dc13 pm13 cd13 ct13 oc14 kV14 dc14 pm14 cd14 ct14 oc15 kV15 dc15 pm15 cd15 ct15 oc16 kV16 dc16 pm16 cd16 ct16 oc17 kV17 dc17 pm17 cd17 ct17 oc18 kV18 dc18 pm18 cd18 ct18 oc19 kV19 dc19 pm19 cd19 ct19 oc20 kV20 dc20 pm20 cd20 ct20 oc21 kV21 dc21 pm21 cd21 ct21 oc22 kV22 dc22 pm22 cd22 ct22 oc23 kV23 dc23 pm23 cd23 ct23 : Value}
    {t_MOST_ROUTERS : Tok}
    {eF ecda ecc : Addr} {eoc ekV edc epm ect eccl ecl : Value} {eod ean ecdd ecld : Option Addr} {eosl eccs ecsl : Array (Option Value)} {evs : Array Value} {efile : Str} {etf : Tok} {ecdB : ClassData} {C_NetError C_BadChange : Addr}
    {nm_NetError q_NetError : Str} {N_NetError : Addr} {bs_NetError sub_NetError : List Value} {sn_NetError : List Str} {ab_NetError : Bool} {col_NetError : Option Bool} {dd_NetError : Option Addr} {m0_NetError m1_NetError m2_NetError m3_NetError m5_NetError : Option Value}
    {nm_BadChange q_BadChange : Str} {N_BadChange : Addr} {bs_BadChange sub_BadChange : List Value} {sn_BadChange : List Str} {ab_BadChange : Bool} {col_BadChange : Option Bool} {dd_BadChange : Option Addr} {m0_BadChange m1_BadChange m2_BadChange m3_BadChange m5_BadChange : Option Value}
    (a_NetError : PySem.W.nsIn K mainGlobals "NetError" = some (some (.ref C_NetError)))
    (a_BadChange : PySem.W.nsIn K mainGlobals "BadChange" = some (some (.ref C_BadChange)))
    (xL_NetError : K.lookup C_NetError = some (excClassObj nm_NetError q_NetError C_NetError N_NetError bs_NetError [.type "ValueError", .type "Exception", .type "BaseException", .type "object"] true sn_NetError sub_NetError ab_NetError col_NetError dd_NetError m0_NetError m1_NetError m2_NetError m3_NetError m5_NetError "ValueError.__new__"))
    (sa_NetError : PySem.W.findIn K (.ref C_NetError) "__setattr__" = some (some (.builtin "object.__setattr__")))
    (ga_NetError : PySem.W.findIn K (.ref C_NetError) "__getattribute__" = some (some (.builtin "BaseException.__getattribute__")))
    (gg_NetError : PySem.W.findIn K (.ref C_NetError) "__getattr__" = some none)
    (nb_NetError : PySem.W.findIn K (.ref C_NetError) "at" = some none)
    (iC_NetError : PySem.W.findIn K (.ref C_NetError) "__init__" = some (some (.ref eF)))
    (kC_NetError : PySem.W.keepIn K (.ref C_NetError) = true)
    (eC_NetError : PySem.W.subIn K (.ref C_NetError) (.type "BaseException") = some true)
    (vC_NetError : PySem.W.subIn K (.ref C_NetError) (.type "ValueError") = some true)
    (tC_NetError : PySem.W.typeIn K (.ref C_NetError) = some (.type "type"))
    (hC_NetError : PySem.W.hasDictIn K C_NetError = true)
    (mB_NetError : PySem.W.mroIn K C_NetError (.ref C_NetError) = some true)
    (su_NetError : PySem.W.ks_superIn K C_NetError C_NetError "__init__" = some (some (.builtin "ValueError.__init__")))
    (xL_BadChange : K.lookup C_BadChange = some (excClassObj nm_BadChange q_BadChange C_BadChange N_BadChange bs_BadChange [.ref C_NetError, .type "ValueError", .type "Exception", .type "BaseException", .type "object"] true sn_BadChange sub_BadChange ab_BadChange col_BadChange dd_BadChange m0_BadChange m1_BadChange m2_BadChange m3_BadChange m5_BadChange "ValueError.__new__"))
    (sa_BadChange : PySem.W.findIn K (.ref C_BadChange) "__setattr__" = some (some (.builtin "object.__setattr__")))
    (ga_BadChange : PySem.W.findIn K (.ref C_BadChange) "__getattribute__" = some (some (.builtin "BaseException.__getattribute__")))
    (gg_BadChange : PySem.W.findIn K (.ref C_BadChange) "__getattr__" = some none)
    (nb_BadChange : PySem.W.findIn K (.ref C_BadChange) "at" = some none)
    (iC_BadChange : PySem.W.findIn K (.ref C_BadChange) "__init__" = some (some (.ref eF)))
    (kC_BadChange : PySem.W.keepIn K (.ref C_BadChange) = true)
    (eC_BadChange : PySem.W.subIn K (.ref C_BadChange) (.type "BaseException") = some true)
    (vC_BadChange : PySem.W.subIn K (.ref C_BadChange) (.type "ValueError") = some true)
    (tC_BadChange : PySem.W.typeIn K (.ref C_BadChange) = some (.type "type"))
    (hC_BadChange : PySem.W.hasDictIn K C_BadChange = true)
    (mB_BadChange : PySem.W.mroIn K C_BadChange (.ref C_NetError) = some true)
    (su_BadChange : PySem.W.ks_superIn K C_BadChange C_NetError "__init__" = some (some (.builtin "ValueError.__init__")))
    (el : K.lookup eF = some ⟨eoc, eod, .func (PySem.W.ksFn "__init__" "NetError.__init__" (neA ⟨4, 17, 4, 21⟩ ⟨4, 23, 4, 25⟩) (neB ⟨5, 8, 5, 13⟩ ⟨5, 8, 5, 15⟩ ⟨5, 8, 5, 24⟩ ⟨5, 25, 5, 27⟩ ⟨5, 8, 5, 28⟩ ⟨5, 8, 5, 28⟩ ⟨6, 8, 6, 12⟩ ⟨6, 8, 6, 15⟩ ⟨6, 18, 6, 20⟩ ⟨6, 8, 6, 20⟩) neS .none ekV edc epm ean (.ref ecda) ect ecc), eosl⟩)
    (ec : PySem.W.codeIn K (.ref ecda) "NetError.__init__" = true)
    (eh : K.lookup ecda = some ⟨eccl, ecdd, .fields evs, eccs⟩)
    (ev : evs[2]? = some (.str efile etf))
    (ef : ((l.prog.main.file : Str) == efile) = true)
    (ecl : K.lookup ecc = some ⟨ecl, ecld, .cell (some (.ref C_NetError)), ecsl⟩)
    (ecB : PySem.W.clsIn K C_NetError = some ecdB)
    (esup : PySem.W.nsIn K mainGlobals "super" = some none)
    (etp : PySem.W.nsIn K PySem.cStatics "thirdparty.any" = some none)
    (etop : (l.prog.main.scope.names.lookup ("super" : Str)).isSome = false)
    (etI : PySem.W.typeIn K (.ref eF) = some (.type "function"))
    (ex_BadChange_BadChange : PySem.W.exmOne K (.ref C_BadChange) (.ref C_BadChange) = some true)
    (a0 : PySem.W.nsIn K mainGlobals "is_hops" = some (some (.ref f0))) (l0 : K.lookup f0 = some ⟨oc0, od0, .func (PySem.W.fnOf "is_hops" "is_hops" (defArgs st_is_hops) (defBody st_is_hops) (defScope st_is_hops) .none kV0 dc0 pm0 an0 cd0 ct0), sl0⟩) (c0 : PySem.W.codeIn K cd0 "is_hops" = true) (k0 : PySem.W.keepIn K (.ref f0) = true)
    (a1 : PySem.W.nsIn K mainGlobals "leads_round" = some (some (.ref f1))) (l1 : K.lookup f1 = some ⟨oc1, od1, .func (PySem.W.fnOf "leads_round" "leads_round" (defArgs st_leads_round) (defBody st_leads_round) (defScope st_leads_round) .none kV1 dc1 pm1 an1 cd1 ct1), sl1⟩) (c1 : PySem.W.codeIn K cd1 "leads_round" = true) (k1 : PySem.W.keepIn K (.ref f1) = true)
    (a2 : PySem.W.nsIn K mainGlobals "changing" = some (some (.ref f2))) (l2 : K.lookup f2 = some ⟨oc2, od2, .func (PySem.W.fnOf "changing" "changing" (defArgs st_changing) (defBody st_changing) (defScope st_changing) .none kV2 dc2 pm2 an2 cd2 ct2), sl2⟩) (c2 : PySem.W.codeIn K cd2 "changing" = true) (k2 : PySem.W.keepIn K (.ref f2) = true)
    (a3 : PySem.W.nsIn K mainGlobals "mixed" = some (some (.ref f3))) (l3 : K.lookup f3 = some ⟨oc3, od3, .func (PySem.W.fnOf "mixed" "mixed" (defArgs st_mixed) (defBody st_mixed) (defScope st_mixed) .none kV3 dc3 pm3 an3 cd3 ct3), sl3⟩) (c3 : PySem.W.codeIn K cd3 "mixed" = true) (k3 : PySem.W.keepIn K (.ref f3) = true)
    (a4 : PySem.W.nsIn K mainGlobals "subsets" = some (some (.ref f4))) (l4 : K.lookup f4 = some ⟨oc4, od4, .func (PySem.W.fnOf "subsets" "subsets" (defArgs st_subsets) (defBody st_subsets) (defScope st_subsets) .none kV4 dc4 pm4 an4 cd4 ct4), sl4⟩) (c4 : PySem.W.codeIn K cd4 "subsets" = true) (k4 : PySem.W.keepIn K (.ref f4) = true)
    (a5 : PySem.W.nsIn K mainGlobals "reached_by" = some (some (.ref f5))) (l5 : K.lookup f5 = some ⟨oc5, od5, .func (PySem.W.fnOf "reached_by" "reached_by" (defArgs st_reached_by) (defBody st_reached_by) (defScope st_reached_by) .none kV5 dc5 pm5 an5 cd5 ct5), sl5⟩) (c5 : PySem.W.codeIn K cd5 "reached_by" = true) (k5 : PySem.W.keepIn K (.ref f5) = true)
    (a6 : PySem.W.nsIn K mainGlobals "_law_draws" = some (some (.ref f6))) (l6 : K.lookup f6 = some ⟨oc6, od6, .func (PySem.W.fnOf "_law_draws" "_law_draws" (defArgs st__law_draws) (defBody st__law_draws) (defScope st__law_draws) .none kV6 dc6 pm6 an6 cd6 ct6), sl6⟩) (c6 : PySem.W.codeIn K cd6 "_law_draws" = true) (k6 : PySem.W.keepIn K (.ref f6) = true)
    (a7 : PySem.W.nsIn K mainGlobals "_law_mix" = some (some (.ref f7))) (l7 : K.lookup f7 = some ⟨oc7, od7, .func (PySem.W.fnOf "_law_mix" "_law_mix" (defArgs st__law_mix) (defBody st__law_mix) (defScope st__law_mix) .none kV7 dc7 pm7 an7 cd7 ct7), sl7⟩) (c7 : PySem.W.codeIn K cd7 "_law_mix" = true) (k7 : PySem.W.keepIn K (.ref f7) = true)
    (a8 : PySem.W.nsIn K mainGlobals "_law_round" = some (some (.ref f8))) (l8 : K.lookup f8 = some ⟨oc8, od8, .func (PySem.W.fnOf "_law_round" "_law_round" (defArgs st__law_round) (defBody st__law_round) (defScope st__law_round) .none kV8 dc8 pm8 an8 cd8 ct8), sl8⟩) (c8 : PySem.W.codeIn K cd8 "_law_round" = true) (k8 : PySem.W.keepIn K (.ref f8) = true)
    (a9 : PySem.W.nsIn K mainGlobals "_law_sets" = some (some (.ref f9))) (l9 : K.lookup f9 = some ⟨oc9, od9, .func (PySem.W.fnOf "_law_sets" "_law_sets" (defArgs st__law_sets) (defBody st__law_sets) (defScope st__law_sets) .none kV9 dc9 pm9 an9 cd9 ct9), sl9⟩) (c9 : PySem.W.codeIn K cd9 "_law_sets" = true) (k9 : PySem.W.keepIn K (.ref f9) = true)
    (a10 : PySem.W.nsIn K mainGlobals "check_change" = some (some (.ref f10))) (l10 : K.lookup f10 = some ⟨oc10, od10, .func (PySem.W.fnOf "check_change" "check_change" (defArgs st_check_change) (defBody st_check_change) (defScope st_check_change) .none kV10 dc10 pm10 an10 cd10 ct10), sl10⟩) (c10 : PySem.W.codeIn K cd10 "check_change" = true) (k10 : PySem.W.keepIn K (.ref f10) = true)
    (a11 : PySem.W.nsIn K mainGlobals "is_round_safe" = some (some (.ref f11))) (l11 : K.lookup f11 = some ⟨oc11, od11, .func (PySem.W.fnOf "is_round_safe" "is_round_safe" (defArgs st_is_round_safe) (defBody st_is_round_safe) (defScope st_is_round_safe) .none kV11 dc11 pm11 an11 cd11 ct11), sl11⟩) (c11 : PySem.W.codeIn K cd11 "is_round_safe" = true) (k11 : PySem.W.keepIn K (.ref f11) = true)
    (a12 : PySem.W.nsIn K mainGlobals "_law_hops" = some (some (.ref f12))) (l12 : K.lookup f12 = some ⟨oc12, od12, .func (PySem.W.fnOf "_law_hops" "_law_hops" (defArgs st__law_hops) (defBody st__law_hops) (defScope st__law_hops) .none kV12 dc12 pm12 an12 cd12 ct12), sl12⟩) (c12 : PySem.W.codeIn K cd12 "_law_hops" = true) (k12 : PySem.W.keepIn K (.ref f12) = true)
    (a13 : PySem.W.nsIn K mainGlobals "_law_safe" = some (some (.ref f13))) (l13 : K.lookup f13 = some ⟨oc13, od13, .func (PySem.W.fnOf "_law_safe" "_law_safe" (defArgs st__law_safe) (defBody st__law_safe) (defScope st__law_safe) .none kV13 dc13 pm13 an13 cd13 ct13), sl13⟩) (c13 : PySem.W.codeIn K cd13 "_law_safe" = true) (k13 : PySem.W.keepIn K (.ref f13) = true)
    (a14 : PySem.W.nsIn K mainGlobals "is_safe" = some (some (.ref f14))) (l14 : K.lookup f14 = some ⟨oc14, od14, .func (PySem.W.fnOf "is_safe" "is_safe" (defArgs st_is_safe) (defBody st_is_safe) (defScope st_is_safe) .none kV14 dc14 pm14 an14 cd14 ct14), sl14⟩) (c14 : PySem.W.codeIn K cd14 "is_safe" = true) (k14 : PySem.W.keepIn K (.ref f14) = true)
    (a15 : PySem.W.nsIn K mainGlobals "hops_at" = some (some (.ref f15))) (l15 : K.lookup f15 = some ⟨oc15, od15, .func (PySem.W.fnOf "hops_at" "hops_at" (defArgs st_hops_at) (defBody st_hops_at) (defScope st_hops_at) .none kV15 dc15 pm15 an15 cd15 ct15), sl15⟩) (c15 : PySem.W.codeIn K cd15 "hops_at" = true) (k15 : PySem.W.keepIn K (.ref f15) = true)
    (a16 : PySem.W.nsIn K mainGlobals "are_rounds" = some (some (.ref f16))) (l16 : K.lookup f16 = some ⟨oc16, od16, .func (PySem.W.fnOf "are_rounds" "are_rounds" (defArgs st_are_rounds) (defBody st_are_rounds) (defScope st_are_rounds) .none kV16 dc16 pm16 an16 cd16 ct16), sl16⟩) (c16 : PySem.W.codeIn K cd16 "are_rounds" = true) (k16 : PySem.W.keepIn K (.ref f16) = true)
    (a17 : PySem.W.nsIn K mainGlobals "one_by_one" = some (some (.ref f17))) (l17 : K.lookup f17 = some ⟨oc17, od17, .func (PySem.W.fnOf "one_by_one" "one_by_one" (defArgs st_one_by_one) (defBody st_one_by_one) (defScope st_one_by_one) .none kV17 dc17 pm17 an17 cd17 ct17), sl17⟩) (c17 : PySem.W.codeIn K cd17 "one_by_one" = true) (k17 : PySem.W.keepIn K (.ref f17) = true)
    (a18 : PySem.W.nsIn K mainGlobals "least_from" = some (some (.ref f18))) (l18 : K.lookup f18 = some ⟨oc18, od18, .func (PySem.W.fnOf "least_from" "least_from" (defArgs st_least_from) (defBody st_least_from) (defScope st_least_from) .none kV18 dc18 pm18 an18 cd18 ct18), sl18⟩) (c18 : PySem.W.codeIn K cd18 "least_from" = true) (k18 : PySem.W.keepIn K (.ref f18) = true)
    (a19 : PySem.W.nsIn K mainGlobals "_law_fewest" = some (some (.ref f19))) (l19 : K.lookup f19 = some ⟨oc19, od19, .func (PySem.W.fnOf "_law_fewest" "_law_fewest" (defArgs st__law_fewest) (defBody st__law_fewest) (defScope st__law_fewest) .none kV19 dc19 pm19 an19 cd19 ct19), sl19⟩) (c19 : PySem.W.codeIn K cd19 "_law_fewest" = true) (k19 : PySem.W.keepIn K (.ref f19) = true)
    (a20 : PySem.W.nsIn K mainGlobals "least_rounds" = some (some (.ref f20))) (l20 : K.lookup f20 = some ⟨oc20, od20, .func (PySem.W.fnOf "least_rounds" "least_rounds" (defArgs st_least_rounds) (defBody st_least_rounds) (defScope st_least_rounds) .none kV20 dc20 pm20 an20 cd20 ct20), sl20⟩) (c20 : PySem.W.codeIn K cd20 "least_rounds" = true) (k20 : PySem.W.keepIn K (.ref f20) = true)
    (a21 : PySem.W.nsIn K mainGlobals "_law_least" = some (some (.ref f21))) (l21 : K.lookup f21 = some ⟨oc21, od21, .func (PySem.W.fnOf "_law_least" "_law_least" (defArgs st__law_least) (defBody st__law_least) (defScope st__law_least) .none kV21 dc21 pm21 an21 cd21 ct21), sl21⟩) (c21 : PySem.W.codeIn K cd21 "_law_least" = true) (k21 : PySem.W.keepIn K (.ref f21) = true)
    (a22 : PySem.W.nsIn K mainGlobals "_law_fault" = some (some (.ref f22))) (l22 : K.lookup f22 = some ⟨oc22, od22, .func (PySem.W.fnOf "_law_fault" "_law_fault" (defArgs st__law_fault) (defBody st__law_fault) (defScope st__law_fault) .none kV22 dc22 pm22 an22 cd22 ct22), sl22⟩) (c22 : PySem.W.codeIn K cd22 "_law_fault" = true) (k22 : PySem.W.keepIn K (.ref f22) = true)
    (a23 : PySem.W.nsIn K mainGlobals "law" = some (some (.ref f23))) (l23 : K.lookup f23 = some ⟨oc23, od23, .func (PySem.W.fnOf "law" "law" (defArgs st_law) (defBody st_law) (defScope st_law) .none kV23 dc23 pm23 an23 cd23 ct23), sl23⟩) (c23 : PySem.W.codeIn K cd23 "law" = true) (k23 : PySem.W.keepIn K (.ref f23) = true)
    (z_len : PySem.W.nsIn K mainGlobals "len" = some none)
    (z_list : PySem.W.nsIn K mainGlobals "list" = some none)
    (z_sorted : PySem.W.nsIn K mainGlobals "sorted" = some none)
    (z_set : PySem.W.nsIn K mainGlobals "set" = some none)
    (z_all : PySem.W.nsIn K mainGlobals "all" = some none)
    (z_any : PySem.W.nsIn K mainGlobals "any" = some none)
    (z_min : PySem.W.nsIn K mainGlobals "min" = some none)
    (z_range : PySem.W.nsIn K mainGlobals "range" = some none)
    (z_abs : PySem.W.nsIn K mainGlobals "abs" = some none)
    (z_int : PySem.W.nsIn K mainGlobals "int" = some none)
    (z_dict : PySem.W.nsIn K mainGlobals "dict" = some none)
    (z_tuple : PySem.W.nsIn K mainGlobals "tuple" = some none)
    (z_repr : PySem.W.nsIn K mainGlobals "repr" = some none)
    (m_MOST_ROUTERS : PySem.W.nsIn K mainGlobals "MOST_ROUTERS" = some (some (.int 9 t_MOST_ROUTERS)))
    : ∃ fd : FuncData, (∀ (s : Shared) (v : Value), BindsTo s fd ⟨[v], []⟩ [("script", v)]) ∧ ∀ base : Heap, K.In base → base.Ns mainGlobals mg → FnG l.prog w K mg base 14 fa fd ["script"] (spS K w mg F_law) := by
  have e := hfa.symm.trans (PySem.W.mg_of X G a23)
  cases e
  have Z : Zs K mg := ⟨PySem.W.mg_none_of X G z_len, PySem.W.mg_none_of X G z_list, PySem.W.mg_none_of X G z_sorted, PySem.W.mg_none_of X G z_set, PySem.W.mg_none_of X G z_all, PySem.W.mg_none_of X G z_any, PySem.W.mg_none_of X G z_min, PySem.W.mg_none_of X G z_range, PySem.W.mg_none_of X G z_abs, PySem.W.mg_none_of X G z_int, PySem.W.mg_none_of X G z_dict, PySem.W.mg_none_of X G z_tuple, PySem.W.mg_none_of X G z_repr, ⟨_, PySem.W.mg_of X G m_MOST_ROUTERS⟩⟩
  have n_NetError : NetC K C_NetError eF C_NetError := ⟨⟨_, _, _, _, _, _, _, _, _, _, _, _, _, _, _, xL_NetError, refsVE_base⟩, sa_NetError, ga_NetError, gg_NetError, nb_NetError, iC_NetError, kC_NetError, eC_NetError, vC_NetError, tC_NetError, hC_NetError, mB_NetError, su_NetError⟩
  have n_BadChange : NetC K C_NetError eF C_BadChange := ⟨⟨_, _, _, _, _, _, _, _, _, _, _, _, _, _, _, xL_BadChange, refsVE_one⟩, sa_BadChange, ga_BadChange, gg_BadChange, nb_BadChange, iC_BadChange, kC_BadChange, eC_BadChange, vC_BadChange, tC_BadChange, hC_BadChange, mB_BadChange, su_BadChange⟩
  have Er : Es l.prog K mg C_NetError eF := ⟨⟨⟨_, _, _, _, _, _, _, _, _, _, _, _, _, _, _, _, _, _, _, _, _, _, el, rfl, ec, ⟨_, _, _, _, _, _, eh, ev, ef⟩, _, _, _, ecl⟩, ⟨_, ecB⟩, PySem.W.mg_none_of X G esup, etp, etop, etI⟩, ⟨_, PySem.W.mg_of X G a_BadChange, n_BadChange⟩, (fun D g => by cases (PySem.W.mg_of X G a_BadChange).symm.trans g; exact ⟨_, PySem.W.mg_of X G a_BadChange, n_BadChange, ex_BadChange_BadChange⟩)⟩
  have F0 := fun_mk (st := st_is_hops) l0 c0 k0
  have b0 := F0.binds (ps := P_is_hops) fun _ _ _ _ _ _ us hl => match us, hl with | [_], _ => rfl
  have F1 := fun_mk (st := st_leads_round) l1 c1 k1
  have b1 := F1.binds (ps := P_leads_round) fun _ _ _ _ _ _ us hl => match us, hl with | [_], _ => rfl
  have F2 := fun_mk (st := st_changing) l2 c2 k2
  have b2 := F2.binds (ps := P_changing) fun _ _ _ _ _ _ us hl => match us, hl with | [_, _], _ => rfl
  have F3 := fun_mk (st := st_mixed) l3 c3 k3
  have b3 := F3.binds (ps := P_mixed) fun _ _ _ _ _ _ us hl => match us, hl with | [_, _, _, _], _ => rfl
  have F4 := fun_mk (st := st_subsets) l4 c4 k4
  have b4 := F4.binds (ps := P_subsets) fun _ _ _ _ _ _ us hl => match us, hl with | [_], _ => rfl
  have F5 := fun_mk (st := st_reached_by) l5 c5 k5
  have b5 := F5.binds (ps := P_reached_by) fun _ _ _ _ _ _ us hl => match us, hl with | [_, _], _ => rfl
  have F6 := fun_mk (st := st__law_draws) l6 c6 k6
  have b6 := F6.binds (ps := P__law_draws) fun _ _ _ _ _ _ us hl => match us, hl with | [_], _ => rfl
  have F7 := fun_mk (st := st__law_mix) l7 c7 k7
  have b7 := F7.binds (ps := P__law_mix) fun _ _ _ _ _ _ us hl => match us, hl with | [_, _, _], _ => rfl
  have F8 := fun_mk (st := st__law_round) l8 c8 k8
  have b8 := F8.binds (ps := P__law_round) fun _ _ _ _ _ _ us hl => match us, hl with | [_], _ => rfl
  have F9 := fun_mk (st := st__law_sets) l9 c9 k9
  have b9 := F9.binds (ps := P__law_sets) fun _ _ _ _ _ _ us hl => match us, hl with | [_], _ => rfl
  have F10 := fun_mk (st := st_check_change) l10 c10 k10
  have b10 := F10.binds (ps := P_check_change) fun _ _ _ _ _ _ us hl => match us, hl with | [_, _], _ => rfl
  have F11 := fun_mk (st := st_is_round_safe) l11 c11 k11
  have b11 := F11.binds (ps := P_is_round_safe) fun _ _ _ _ _ _ us hl => match us, hl with | [_, _, _, _], _ => rfl
  have F12 := fun_mk (st := st__law_hops) l12 c12 k12
  have b12 := F12.binds (ps := P__law_hops) fun _ _ _ _ _ _ us hl => match us, hl with | [_, _, _], _ => rfl
  have F13 := fun_mk (st := st__law_safe) l13 c13 k13
  have b13 := F13.binds (ps := P__law_safe) fun _ _ _ _ _ _ us hl => match us, hl with | [_, _, _, _], _ => rfl
  have F14 := fun_mk (st := st_is_safe) l14 c14 k14
  have b14 := F14.binds (ps := P_is_safe) fun _ _ _ _ _ _ us hl => match us, hl with | [_, _, _, _], _ => rfl
  have F15 := fun_mk (st := st_hops_at) l15 c15 k15
  have b15 := F15.binds (ps := P_hops_at) fun _ _ _ _ _ _ us hl => match us, hl with | [_, _, _], _ => rfl
  have F16 := fun_mk (st := st_are_rounds) l16 c16 k16
  have b16 := F16.binds (ps := P_are_rounds) fun _ _ _ _ _ _ us hl => match us, hl with | [_, _, _], _ => rfl
  have F17 := fun_mk (st := st_one_by_one) l17 c17 k17
  have b17 := F17.binds (ps := P_one_by_one) fun _ _ _ _ _ _ us hl => match us, hl with | [_, _], _ => rfl
  have F18 := fun_mk (st := st_least_from) l18 c18 k18
  have b18 := F18.binds (ps := P_least_from) fun _ _ _ _ _ _ us hl => match us, hl with | [_, _, _, _], _ => rfl
  have F19 := fun_mk (st := st__law_fewest) l19 c19 k19
  have b19 := F19.binds (ps := P__law_fewest) fun _ _ _ _ _ _ us hl => match us, hl with | [_, _, _, _], _ => rfl
  have F20 := fun_mk (st := st_least_rounds) l20 c20 k20
  have b20 := F20.binds (ps := P_least_rounds) fun _ _ _ _ _ _ us hl => match us, hl with | [_, _], _ => rfl
  have F21 := fun_mk (st := st__law_least) l21 c21 k21
  have b21 := F21.binds (ps := P__law_least) fun _ _ _ _ _ _ us hl => match us, hl with | [_, _, _], _ => rfl
  have F22 := fun_mk (st := st__law_fault) l22 c22 k22
  have b22 := F22.binds (ps := P__law_fault) fun _ _ _ _ _ _ us hl => match us, hl with | [_, _, _], _ => rfl
  have F23 := fun_mk (st := st_law) l23 c23 k23
  refine ⟨PySem.W.fnOf "law" "law" (defArgs st_law) (defBody st_law) (defScope st_law) .none kV23 dc23 pm23 an23 cd23 ct23, fun s v => .of_eq rfl, fun base _ _ => ?_⟩
  have d0 := ok_is_hops (P := l.prog) (w := w) (base := base) Z Er  F0 (PySem.W.mg_of X G a0) b0
  have d1 := ok_leads_round (P := l.prog) (w := w) (base := base) Z Er  F1 (PySem.W.mg_of X G a1) b1
  have d2 := ok_changing (P := l.prog) (w := w) (base := base) Z Er  F2 (PySem.W.mg_of X G a2) b2
  have d3 := ok_mixed (P := l.prog) (w := w) (base := base) Z Er  F3 (PySem.W.mg_of X G a3) b3
  have d4 := ok_subsets (P := l.prog) (w := w) (base := base) Z Er  F4 (PySem.W.mg_of X G a4) b4
  have d5 := ok_reached_by (P := l.prog) (w := w) (base := base) Z Er  F5 (PySem.W.mg_of X G a5) b5
  have d6 := ok__law_draws (P := l.prog) (w := w) (base := base) Z Er  F6 (PySem.W.mg_of X G a6) b6
  have d7 := ok__law_mix (P := l.prog) (w := w) (base := base) Z Er  F7 (PySem.W.mg_of X G a7) b7
  have d8 := ok__law_round (P := l.prog) (w := w) (base := base) Z Er  F8 (PySem.W.mg_of X G a8) b8
  have d9 := ok__law_sets (P := l.prog) (w := w) (base := base) Z Er  F9 (PySem.W.mg_of X G a9) b9
  have d10 := ok_check_change (P := l.prog) (w := w) (base := base) Z Er d1 d0 F10 (PySem.W.mg_of X G a10) b10
  have d11 := ok_is_round_safe (P := l.prog) (w := w) (base := base) Z Er d1 d3 F11 (PySem.W.mg_of X G a11) b11
  have d12 := ok__law_hops (P := l.prog) (w := w) (base := base) Z Er d7 F12 (PySem.W.mg_of X G a12) b12
  have d13 := ok__law_safe (P := l.prog) (w := w) (base := base) Z Er d8 F13 (PySem.W.mg_of X G a13) b13
  have d14 := ok_is_safe (P := l.prog) (w := w) (base := base) Z Er d10 d11 F14 (PySem.W.mg_of X G a14) b14
  have d15 := ok_hops_at (P := l.prog) (w := w) (base := base) Z Er d10 d3 F15 (PySem.W.mg_of X G a15) b15
  have d16 := ok_are_rounds (P := l.prog) (w := w) (base := base) Z Er d10 d2 d11 F16 (PySem.W.mg_of X G a16) b16
  have d17 := ok_one_by_one (P := l.prog) (w := w) (base := base) Z Er d10 d2 d5 F17 (PySem.W.mg_of X G a17) b17
  have d18 := ok_least_from (P := l.prog) (w := w) (base := base) Z Er d4 d2 d11 F18 (PySem.W.mg_of X G a18) b18 9
  have d19 := ok__law_fewest (P := l.prog) (w := w) (base := base) Z Er d9 d13 F19 (PySem.W.mg_of X G a19) b19 9
  have d20 := ok_least_rounds (P := l.prog) (w := w) (base := base) Z Er d10 d18 F20 (PySem.W.mg_of X G a20) b20
  have d21 := ok__law_least (P := l.prog) (w := w) (base := base) Z Er d19 d9 d13 F21 (PySem.W.mg_of X G a21) b21
  have d22 := ok__law_fault (P := l.prog) (w := w) (base := base) Z Er d10 d14 d16 d15 d20 d17 F22 (PySem.W.mg_of X G a22) b22
  exact fn_law Z Er d12 d20 d17 d7 d9 d16 d10 d21 d8 d14 d13 d22 d15 d6 F23
end
end K09
set_option Elab.async false
set_option linter.all false
set_option maxRecDepth 100000
namespace K09
open PySem DP
/-! ### nets: routers 0 .. n - 1 -/
def R (n : Nat) : List Int := (List.range n).map fun (i : Nat) => (i : Int)
def entF (f : Int → List Int) (r : Int) : D × D := (.int r, iL (f r))
def nD (n : Nat) (f : Int → List Int) : D := .dict ((R n).map (entF f))
theorem mem_R {n : Nat} {r : Int} : r ∈ R n ↔ 0 ≤ r ∧ r < n := by
  unfold R
  rw [List.mem_map]
  constructor
  · rintro ⟨i, hi, rfl⟩
    have := List.mem_range.mp hi
    omega
  · rintro ⟨h1, h2⟩
    exact ⟨r.toNat, List.mem_range.mpr (by omega), by omega⟩
theorem R_len (n : Nat) : (R n).length = n := by simp [R]
theorem R_pw (n : Nat) : (R n).Pairwise (· < ·) := by
  unfold R
  rw [List.pairwise_map]
  exact List.pairwise_lt_range.imp fun h => by omega
theorem kIs_ent (f : Int → List Int) (k r : Int) : kIs (.int k) (entF f r) = decide (r = k) := by
  unfold kIs entF
  simp [keyD]
theorem dAt_ent (f : Int → List Int) (k : Int) : ∀ L : List Int, dAt (L.map (entF f)) (.int k) = if k ∈ L then some (iL (f k)) else none
  | [] => rfl
  | a :: L => by
    have ih := dAt_ent f k L
    unfold dAt at ih ⊢
    rw [List.map_cons, List.find?_cons, kIs_ent]
    by_cases h : a = k
    · subst h
      simp [entF]
    · have h' : k ≠ a := fun z => h z.symm
      simp only [decide_eq_false h, List.mem_cons, h', false_or]
      exact ih
theorem any_ent (f : Int → List Int) (k : Int) (L : List Int) : (L.map (entF f)).any (kIs (.int k)) = decide (k ∈ L) := by
  rw [List.any_map, Bool.eq_iff_iff]
  simp only [List.any_eq_true, Function.comp, kIs_ent, decide_eq_true_eq]
  exact ⟨fun ⟨x, h, e⟩ => e ▸ h, fun h => ⟨k, h, rfl⟩⟩
theorem ix_nD {n : Nat} {f : Int → List Int} {r : Int} (h : r ∈ R n) : ixD (nD n f) (.int r) = some (iL (f r)) := by
  show (if keyOk (.int r) = true then dAt ((R n).map (entF f)) (.int r) else none) = _
  rw [if_pos (show keyOk (.int r) = true from rfl), dAt_ent, if_pos h]
theorem it_nD (n : Nat) (f : Int → List Int) : itD (nD n f) = some ((R n).map .int) := by
  show some (((R n).map (entF f)).map (·.1)) = _
  rw [List.map_map]
  rfl
theorem in_nD (n : Nat) (f : Int → List Int) (r : Int) : inD2 (.int r) (nD n f) = some (.bool (decide (r ∈ R n))) := by
  show (if keyOk (.int r) = true then some (PyData.bool (((R n).map (entF f)).any (kIs (.int r)))) else none) = _
  rw [if_pos (show keyOk (.int r) = true from rfl), any_ent]
theorem sorted_nD (n : Nat) (f : Int → List Int) : sortedD2 [nD n f] = some (iL (R n)) := by
  have e : ((R n).map (entF f)).map (·.1) = (R n).map PyData.int := by rw [List.map_map]; rfl
  show (if srtOk (((R n).map (entF f)).map (·.1)) = true then some (PyData.list (sortL (((R n).map (entF f)).map (·.1)))) else none) = _
  rw [e, if_pos (srtOk_ints _), sortL_ints, srtZ_eq (R_pw n) (List.Perm.refl _)]
  rfl
theorem len_nD (n : Nat) (f : Int → List Int) : lenD [nD n f] = some (.int n) := by
  show some (PyData.int (((R n).map (entF f)).length : Nat)) = _
  rw [List.length_map, R_len]
theorem put_ent (f : Int → List Int) {L : List Int} {k : Int} (h : k ∉ L) : dPut (L.map (entF f)) (.int k) (iL (f k)) = (L ++ [k]).map (entF f) := by
  unfold dPut
  rw [any_ent, decide_eq_false h, if_neg Bool.false_ne_true, List.map_append]
  rfl
/-! ### what is left when those without hops left are struck -/
def stp (f : Int → List Int) (l : List Int) : List Int := l.filter fun r => (f r).any fun h => decide (h ∈ l)
def itr (f : Int → List Int) : Nat → List Int → List Int
  | 0, l => l
  | k + 1, l => itr f k (stp f l)
def cyc (n : Nat) (f : Int → List Int) : Bool := decide (itr f n (R n) ≠ [])
theorem stp_sub {f : Int → List Int} {l : List Int} {r : Int} (h : r ∈ stp f l) : r ∈ l := (List.mem_filter.mp h).1
theorem itr_fix {f : Int → List Int} {l : List Int} (h : stp f l = l) : ∀ k, itr f k l = l
  | 0 => rfl
  | k + 1 => by unfold itr; rw [h, itr_fix h k]
theorem itr_succ (f : Int → List Int) : ∀ (k : Nat) (l : List Int), itr f (k + 1) l = stp f (itr f k l)
  | 0, l => rfl
  | k + 1, l => by
    show itr f (k + 1) (stp f l) = stp f (itr f k (stp f l))
    exact itr_succ f k (stp f l)
theorem any_hops {l : List Int} {hs : List Int} {env : Ev} {a b c e : Sl} (T : D) : cmpL (gN 5) tTrue E1_leads_round [5] (hs.map .int) [.fz T, .fz (iL l), a, b, c, .no] = .ok ((hs.map fun h => decide (h ∈ l)).map PyData.bool, [.fz T, .fz (iL l), a, b, c, .no]) := by
  have q := cmp_mapT (F := PyData.int) (g := gN 5) (el := E1_leads_round) (vs := [5]) (env := [.fz T, .fz (iL l), a, b, c, .no]) (f := fun h => PyData.bool (decide (h ∈ l))) hs fun h _ => ⟨[.fz T, .fz (iL l), a, b, c, .fz (.int h)], rfl, by simp [E1_leads_round], rfl⟩
  rw [List.map_map]
  exact q
theorem less_ok {n : Nat} {f : Int → List Int} {l : List Int} (hl : ∀ r ∈ l, r ∈ R n) (ho : ∀ r ∈ l, (f r).length ≤ 1000) (a b : Sl) :
    cmpL (gN 4) (tst (xn anyD (aCons (xComp (iIt (x2 ixD (xVar 0) (xVar 4))) (gN 5) (tTrue) (E1_leads_round) [5]) (aNil)))) E2_leads_round [4] (l.map .int) [.fz (nD n f), .fz (iL l), a, b, .no, .no] = .ok ((stp f l).map .int, [.fz (nD n f), .fz (iL l), a, b, .no, .no]) := by
  have q := cmp_map (F := PyData.int) (g := gN 4) (ts := tst (xn anyD (aCons (xComp (iIt (x2 ixD (xVar 0) (xVar 4))) (gN 5) (tTrue) (E1_leads_round) [5]) (aNil)))) (el := E2_leads_round) (vs := [4]) (env := [.fz (nD n f), .fz (iL l), a, b, .no, .no])
    (b := fun r => (f r).any fun h => decide (h ∈ l)) (f := fun r => .int r) l fun r hr => ⟨[.fz (nD n f), .fz (iL l), a, b, .fz (.int r), .no], rfl, ?_, fun _ => by simp [E2_leads_round], rfl⟩
  · exact q
  · have h1 : iIt (x2 ixD (xVar 0) (xVar 4)) [.fz (nD n f), .fz (iL l), a, b, .fz (.int r), .no] = .ok ((f r).map .int, [.fz (nD n f), .fz (iL l), a, b, .fz (.int r), .no]) := by
      simp [ix_nD (hl r hr)]
    have h2 := comp_ok (g := gN 5) (ts := tTrue) (el := E1_leads_round) (vs := [5]) h1 (any_hops (l := l) (hs := f r) (env := []) (e := .no) (nD n f)) (by simp only [List.length_map]; rw [sizeLine_eq]; have := ho r hr; omega)
    have h3 : xn anyD (aCons (xComp (iIt (x2 ixD (xVar 0) (xVar 4))) (gN 5) (tTrue) (E1_leads_round) [5]) aNil) [.fz (nD n f), .fz (iL l), a, b, .fz (.int r), .no] = .ok (.bool ((f r).any fun h => decide (h ∈ l)), [.fz (nD n f), .fz (iL l), a, b, .fz (.int r), .no]) := by
      simp only [xn_ap, aCons_ap, aNil_ap, h2, Out.bind_ok, any_bools, liftO_some]
      rw [List.any_map]
      rfl
    simp only [tst_ap, h3, Out.bind_ok, asB_bool]
theorem filter_len {α : Type} (p : α → Bool) {l : List α} (h : l.length ≤ (l.filter p).length) : l.filter p = l := by
  refine List.filter_eq_self.mpr fun a ha => ?_
  by_cases hp : p a = true
  · exact hp
  · have h1 : (l.filter p).length < l.length := by
      rw [← List.countP_eq_length_filter]
      rcases Nat.lt_or_ge (List.countP p l) l.length with q | q
      · exact q
      · have := List.countP_eq_length.mp (Nat.le_antisymm List.countP_le_length q)
        exact absurd (this a ha) hp
    omega
theorem leads_loop {n : Nat} {f : Int → List Int} (ho : ∀ r ∈ R n, (f r).length ≤ 1000) : ∀ (k m : Nat) (l : List Int) (b : Sl), l.length < k → l.length ≤ m → l.length ≤ 1000 → (∀ r ∈ l, r ∈ R n) →
    ∃ b', whL (tst (xVar 2)) Y3_leads_round (k + 1) [.fz (nD n f), .fz (iL l), .fz (.bool true), b, .no, .no] = .ok (.nx, [.fz (nD n f), .fz (iL (itr f m l)), .fz (.bool false), b', .no, .no])
  | 0, m, l, b, h, _, _, _ => absurd h (Nat.not_lt_zero _)
  | k + 1, m, l, b, h, hm, hz, hl => by
    have hlen : (stp f l).length ≤ l.length := List.length_filter_le _ _
    have s1 : sSet 3 (xComp (iIt (xVar 1)) (gN 4) (tst (xn anyD (aCons (xComp (iIt (x2 ixD (xVar 0) (xVar 4))) (gN 5) (tTrue) (E1_leads_round) [5]) (aNil)))) (E2_leads_round) [4]) [.fz (nD n f), .fz (iL l), .fz (.bool true), b, .no, .no] = .ok (.nx, [.fz (nD n f), .fz (iL l), .fz (.bool true), .fz (iL (stp f l)), .no, .no]) := by
      have h1 : iIt (xVar 1) [.fz (nD n f), .fz (iL l), .fz (.bool true), b, .no, .no] = .ok (l.map .int, [.fz (nD n f), .fz (iL l), .fz (.bool true), b, .no, .no]) := by simp
      have h2 := comp_ok (vs := [4]) h1 (less_ok hl (fun r hr => ho r (hl r hr)) (.fz (.bool true)) b) (by rw [List.length_map, sizeLine_eq]; omega)
      simp only [sSet_ap, h2, Out.bind_ok]
      rfl
    have s2 : Y3_leads_round [.fz (nD n f), .fz (iL l), .fz (.bool true), b, .no, .no] = .ok (.nx, [.fz (nD n f), .fz (iL (stp f l)), .fz (.bool (decide ((stp f l).length < l.length))), .fz (iL (stp f l)), .no, .no]) := by
      unfold Y3_leads_round
      rw [seq_nx s1]
      generalize nD n f = T
      generalize stp f l = l'
      simp
    have s0 : tst (xVar 2) [.fz (nD n f), .fz (iL l), .fz (.bool true), b, .no, .no] = .ok (true, [.fz (nD n f), .fz (iL l), .fz (.bool true), b, .no, .no]) := by simp
    rw [wh_yes s0 s2]
    by_cases hlt : (stp f l).length < l.length
    · rw [decide_eq_true hlt]
      obtain ⟨m', rfl⟩ : ∃ m', m = m' + 1 := ⟨m - 1, by omega⟩
      exact leads_loop ho k m' (stp f l) _ (by omega) (by omega) (by omega) fun r hr => hl r (stp_sub hr)
    · rw [decide_eq_false hlt]
      have e : stp f l = l := filter_len _ (Nat.not_lt.mp hlt)
      refine ⟨.fz (iL (stp f l)), ?_⟩
      rw [wh_no (e1 := [.fz (nD n f), .fz (iL (stp f l)), .fz (.bool false), .fz (iL (stp f l)), .no, .no]) (by simp), e, itr_fix e]
theorem leads_ok {n : Nat} {f : Int → List Int} (hn : n ≤ 100) (ho : ∀ r ∈ R n, (f r).length ≤ 1000) : F_leads_round [nD n f] = .ok (.bool (cyc n f)) := by
  obtain ⟨b', h⟩ := leads_loop ho 199 n (R n) .no (by rw [R_len]; omega) (by rw [R_len]; omega) (by rw [R_len]; omega) fun r h => h
  refine runB_rt (e := [.fz (nD n f), .fz (iL (itr f n (R n))), .fz (.bool false), b', .no, .no]) ?_
  show B_leads_round [.fz (nD n f), .no, .no, .no, .no, .no] = _
  have s1 : sSet 1 (xn sortedD2 (aCons (xVar 0) aNil)) [.fz (nD n f), .no, .no, .no, .no, .no] = .ok (.nx, [.fz (nD n f), .fz (iL (R n)), .no, .no, .no, .no]) := by
    simp [sorted_nD]
  have s2 : sSet 2 (xConst (.bool true)) [.fz (nD n f), .fz (iL (R n)), .no, .no, .no, .no] = .ok (.nx, [.fz (nD n f), .fz (iL (R n)), .fz (.bool true), .no, .no, .no]) := by simp
  unfold B_leads_round
  rw [seq_nx s1, seq_nx s2, seq_nx h]
  generalize nD n f = T
  unfold cyc
  generalize itr f n (R n) = l
  cases l with
  | nil => simp
  | cons a l =>
    have : (0 : Int) < (l.length : Int) + 1 := by omega
    simp [this]
end K09
set_option Elab.async false
set_option linter.all false
set_option maxRecDepth 100000
namespace K09
open PySem DP
theorem if_no {c : TF} {f g : SF} {env e1 : Ev} (h : c env = .ok (false, e1)) : sIf c f g env = g e1 := by unfold sIf; rw [h]; rfl
theorem if_yes {c : TF} {f g : SF} {env e1 : Ev} (h : c env = .ok (true, e1)) : sIf c f g env = f e1 := by unfold sIf; rw [h]; rfl
/-- every router has few hops -/
def Few (n : Nat) (f : Int → List Int) : Prop := ∀ r ∈ R n, (f r).length ≤ 20
/-! ### the law's own search for a ring -/
theorem hops_in {l : List Int} {hs : List Int} {a b : Sl} (T : D) : cmpL (gN 4) (tst (x2 inD2 (xVar 4) (xVar 1))) E1__law_round [4] (hs.map .int) [.fz T, .fz (iL l), a, b, .no] = .ok ((hs.filter fun h => decide (h ∈ l)).map PyData.int, [.fz T, .fz (iL l), a, b, .no]) :=
  cmp_map (F := PyData.int) (g := gN 4) (ts := tst (x2 inD2 (xVar 4) (xVar 1))) (el := E1__law_round) (vs := [4]) (env := [.fz T, .fz (iL l), a, b, .no]) (b := fun h => decide (h ∈ l)) (f := fun h => .int h) hs fun h _ => ⟨[.fz T, .fz (iL l), a, b, .fz (.int h)], rfl, by simp, fun _ => by simp [E1__law_round], rfl⟩
theorem any_filter {l hs : List Int} : decide ((hs.filter fun h => decide (h ∈ l)) ≠ []) = hs.any fun h => decide (h ∈ l) := by
  rw [Bool.eq_iff_iff]
  simp only [decide_eq_true_eq, ne_eq, List.filter_eq_nil_iff, List.any_eq_true]
  exact ⟨fun h => Classical.byContradiction fun z => h fun a ha q => z ⟨a, ha, q⟩, fun ⟨a, ha, q⟩ z => z a ha q⟩
theorem round_step {n : Nat} {f : Int → List Int} (hf : ∀ r ∈ R n, (f r).length ≤ 1000) {l : List Int} (hl : ∀ r ∈ l, r ∈ R n) (hz : l.length ≤ 1000) (a b : Sl) :
    Y3__law_round [.fz (nD n f), .fz (iL l), a, .no, .no] = .ok (.nx, [.fz (nD n f), .fz (iL (stp f l)), a, .no, .no]) := by
  have q := cmp_map (F := PyData.int) (g := gN 3) (ts := tst (x2 neD2 (xComp (iIt (x2 ixD (xVar 0) (xVar 3))) (gN 4) (tst (x2 inD2 (xVar 4) (xVar 1))) (E1__law_round) [4]) (xLst (aNil)))) (el := E2__law_round) (vs := [3]) (env := [.fz (nD n f), .fz (iL l), a, .no, .no])
    (b := fun r => (f r).any fun h => decide (h ∈ l)) (f := fun r => .int r) l fun r hr => ⟨[.fz (nD n f), .fz (iL l), a, .fz (.int r), .no], rfl, ?_, fun _ => by simp [E2__law_round], rfl⟩
  · have h1 : iIt (xVar 1) [.fz (nD n f), .fz (iL l), a, .no, .no] = .ok (l.map .int, [.fz (nD n f), .fz (iL l), a, .no, .no]) := by simp
    have h2 := comp_ok (vs := [3]) h1 q (by have : (stp f l).length ≤ l.length := List.length_filter_le _ _; rw [List.length_map, sizeLine_eq]; show (stp f l).length ≤ _; omega)
    unfold Y3__law_round
    simp only [sSet_ap, h2, Out.bind_ok]
    rfl
  · have h1 : iIt (x2 ixD (xVar 0) (xVar 3)) [.fz (nD n f), .fz (iL l), a, .fz (.int r), .no] = .ok ((f r).map .int, [.fz (nD n f), .fz (iL l), a, .fz (.int r), .no]) := by
      simp [ix_nD (hl r hr)]
    have h2 := comp_ok (g := gN 4) (vs := [4]) h1 (hops_in (l := l) (hs := f r) (nD n f)) (by have := hf r (hl r hr); have : ((f r).filter fun h => decide (h ∈ l)).length ≤ (f r).length := List.length_filter_le _ _; rw [List.length_map, sizeLine_eq]; omega)
    simp only [tst_ap, x2_ap, h2, Out.bind_ok]
    show ((xLst aNil _).bind fun q => liftO (neD2 (iL ((f r).filter fun h => decide (h ∈ l))) q.1) q.2).bind asB = _
    simp only [xLst_ap, aNil_ap, Out.bind_ok]
    rw [if_pos (by rw [sizeLine_eq]; decide)]
    simp only [liftO_some, Out.bind_ok, iL_ne0, asB_bool, any_filter]
    rfl
theorem round_ok {n : Nat} {f : Int → List Int} (hn : n ≤ 100) (hf : ∀ r ∈ R n, (f r).length ≤ 1000) : F__law_round [nD n f] = .ok (.bool (cyc n f)) := by
  have hsub : ∀ (k : Nat) (r : Int), r ∈ itr f k (R n) → r ∈ R n := by
    intro k
    induction k with
    | zero => exact fun r h => h
    | succ k ih => exact fun r h => ih r (by rw [itr_succ] at h; exact stp_sub h)
  have hlen : ∀ k : Nat, (itr f k (R n)).length ≤ n := by
    intro k
    induction k with
    | zero => exact Nat.le_of_eq (R_len n)
    | succ k ih => rw [itr_succ]; exact Nat.le_trans (List.length_filter_le _ _) ih
  obtain ⟨e2, h1, a, h2⟩ := for_inv (g := gN 2) (body := Y3__law_round) (fun i env => ∃ a, env = [.fz (nD n f), .fz (iL (itr f i (R n))), a, .no, .no]) (rngD 0 1 n) 0 [.fz (nD n f), .fz (iL (R n)), .no, .no, .no] (by
    rintro i x env hx ⟨a, rfl⟩
    rw [Nat.zero_add]
    refine ⟨[.fz (nD n f), .fz (iL (itr f i (R n))), .fz x, .no, .no], [.fz (nD n f), .fz (iL (itr f (i + 1) (R n))), .fz x, .no, .no], rfl, ?_, _, rfl⟩
    rw [itr_succ]
    exact round_step hf (hsub i) (by have := hlen i; omega) _ .no) ⟨_, rfl⟩
  rw [rngD_len, Nat.zero_add] at h2
  subst h2
  refine runB_rt (e := [.fz (nD n f), .fz (iL (itr f n (R n))), a, .no, .no]) ?_
  show B__law_round [.fz (nD n f), .no, .no, .no, .no] = _
  have s1 : sSet 1 (xn sortedD2 (aCons (xVar 0) aNil)) [.fz (nD n f), .no, .no, .no, .no] = .ok (.nx, [.fz (nD n f), .fz (iL (R n)), .no, .no, .no]) := by
    simp [sorted_nD]
  have s2 : sFor (iArgs rng1 (aCons (xn lenD (aCons (xVar 0) aNil)) aNil)) (gN 2) Y3__law_round [.fz (nD n f), .fz (iL (R n)), .no, .no, .no] = .ok (.nx, [.fz (nD n f), .fz (iL (itr f n (R n))), a, .no, .no]) := by
    have e0 : rng1 [.int (n : Int)] = some (rngD 0 1 n) := by
      have := rng1_ok (x := (n : Int)) (by omega) (by omega)
      simpa using this
    have e1 : aCons (xn lenD (aCons (xVar 0) aNil)) aNil [.fz (nD n f), .fz (iL (R n)), .no, .no, .no] = .ok ([.int (n : Int)], [.fz (nD n f), .fz (iL (R n)), .no, .no, .no]) := by
      simp [len_nD]
    rw [for_args e1 e0, h1]
  unfold B__law_round
  rw [seq_nx s1, seq_nx s2]
  generalize nD n f = T
  unfold cyc
  generalize itr f n (R n) = l
  simp only [sRet_ap, x2_ap, xLst_ap, aNil_ap, Out.bind_ok]
  rw [xVar_fz (d := iL l) rfl]
  simp only [Out.bind_ok]
  rw [if_pos (by rw [sizeLine_eq]; decide)]
  simp only [liftO_some, Out.bind_ok, iL_ne0]
/-! ### mixtures -/
def mixF (o w : Int → List Int) (done now : List Int) (r : Int) : List Int := if r ∈ now then setZ (o r ++ w r) else if r ∈ done then w r else o r
theorem mix_len {n : Nat} {o w : Int → List Int} (ho : Few n o) (hw : Few n w) (done now : List Int) : ∀ r ∈ R n, (mixF o w done now r).length ≤ 40 := by
  intro r hr
  have h1 := ho r hr
  have h2 := hw r hr
  unfold mixF
  split
  · have := setZ_len (o r ++ w r)
    rw [List.length_append] at this
    omega
  · split <;> omega
theorem mix_one {n : Nat} {o w : Int → List Int} (ho : Few n o) (hw : Few n w) (done now : List Int) {acc : List Int} {r : Int} (hr : r ∈ R n) (hacc : r ∉ acc) (hz : acc.length ≤ 1000) :
    Y1_mixed [.fz (nD n o), .fz (nD n w), .fz (iL done), .fz (iL now), .ow none (.dict (acc.map (entF (mixF o w done now)))), .fz (.int r)] = .ok (.nx, [.fz (nD n o), .fz (nD n w), .fz (iL done), .fz (iL now), .ow none (.dict ((acc ++ [r]).map (entF (mixF o w done now)))), .fz (.int r)]) := by
  have h1 := ho r hr
  have h2 := hw r hr
  have p := put_ent (mixF o w done now) hacc
  have e1 := ix_nD (f := o) hr
  have e2 := ix_nD (f := w) hr
  have hsz : (acc.map (entF (mixF o w done now))).length < sizeLine := by rw [List.length_map, sizeLine_eq]; omega
  generalize acc.map (entF (mixF o w done now)) = kvs at *
  unfold Y1_mixed
  by_cases hn : r ∈ now
  · have hm : mixF o w done now r = setZ (o r ++ w r) := if_pos hn
    rw [if_yes (e1 := [.fz (nD n o), .fz (nD n w), .fz (iL done), .fz (iL now), .ow none (.dict kvs), .fz (.int r)]) (by simp [hn])]
    rw [← p, hm]
    refine setK_ok (v := iL (setZ (o r ++ w r))) (kk := .int r) (e1 := [.fz (nD n o), .fz (nD n w), .fz (iL done), .fz (iL now), .ow none (.dict kvs), .fz (.int r)]) (e2 := [.fz (nD n o), .fz (nD n w), .fz (iL done), .fz (iL now), .ow none (.dict kvs), .fz (.int r)]) ?_ rfl (by simp) rfl rfl hsz
    have e3 : sortSetID (.list ((o r).map .int ++ (w r).map .int)) = some (iL (setZ (o r ++ w r))) := by
      rw [← List.map_append]
      exact sortSetI_ok (by rw [List.length_append]; omega)
    generalize nD n o = O at *
    generalize nD n w = V at *
    have e4 : xLst (aStar (x2 ixD (xVar 0) (xVar 5)) (aStar (x2 ixD (xVar 1) (xVar 5)) (aNil))) [.fz O, .fz V, .fz (iL done), .fz (iL now), .ow none (.dict kvs), .fz (.int r)] = .ok (.list ((o r).map .int ++ (w r).map .int), [.fz O, .fz V, .fz (iL done), .fz (iL now), .ow none (.dict kvs), .fz (.int r)]) := by
      have q : ((o r).map PyData.int ++ (w r).map PyData.int).length ≤ sizeLine := by rw [List.length_append, List.length_map, List.length_map, sizeLine_eq]; omega
      simp only [xLst_ap, aStar_ap, x2_ap, aNil_ap, Out.bind_ok]
      rw [xVar_fz (d := O) rfl]
      simp only [Out.bind_ok]
      rw [xVar_fz (d := .int r) rfl]
      simp only [Out.bind_ok, e1, liftO_some, iL, seqO_l]
      rw [xVar_fz (d := V) rfl]
      simp only [Out.bind_ok]
      rw [xVar_fz (d := .int r) rfl]
      simp only [Out.bind_ok, e2, liftO_some, iL, seqO_l, List.append_nil]
      rw [if_pos q]
      rfl
    simp only [xSortSetI_ap, e4, Out.bind_ok, e3, liftO_some]
  · have hm : mixF o w done now r = if r ∈ done then w r else o r := if_neg hn
    rw [if_no (e1 := [.fz (nD n o), .fz (nD n w), .fz (iL done), .fz (iL now), .ow none (.dict kvs), .fz (.int r)]) (by simp [hn])]
    rw [← p, hm]
    refine setK_ok (v := iL (if r ∈ done then w r else o r)) (kk := .int r) (e1 := [.fz (nD n o), .fz (nD n w), .fz (iL done), .fz (iL now), .ow none (.dict kvs), .fz (.int r)]) (e2 := [.fz (nD n o), .fz (nD n w), .fz (iL done), .fz (iL now), .ow none (.dict kvs), .fz (.int r)]) ?_ rfl (by simp) rfl rfl hsz
    generalize nD n o = O at *
    generalize nD n w = V at *
    by_cases hd : r ∈ done
    · simp [hd, e2]
    · simp [hd, e1]
theorem mixed_ok {n : Nat} {o w : Int → List Int} (ho : Few n o) (hw : Few n w) (hn : n ≤ 100) (done now : List Int) : F_mixed [nD n o, nD n w, iL done, iL now] = .ok (nD n (mixF o w done now)) := by
  have key : ∀ (L acc : List Int) (a : Sl), (acc ++ L).Nodup → (∀ r ∈ L, r ∈ R n) → acc.length + L.length ≤ 1000 → ∃ b, forL (gN 5) Y1_mixed (L.map .int) [.fz (nD n o), .fz (nD n w), .fz (iL done), .fz (iL now), .ow none (.dict (acc.map (entF (mixF o w done now)))), a] =
      .ok (.nx, [.fz (nD n o), .fz (nD n w), .fz (iL done), .fz (iL now), .ow none (.dict ((acc ++ L).map (entF (mixF o w done now)))), b]) := by
    intro L
    induction L with
    | nil => intro acc a _ _ _; exact ⟨a, by rw [List.append_nil]; rfl⟩
    | cons r L ih =>
      intro acc a nd hL hz
      have hr : r ∉ acc := fun z => (List.nodup_append.mp nd).2.2 r z r List.mem_cons_self rfl
      obtain ⟨b, hb⟩ := ih (acc ++ [r]) (.fz (.int r)) (by rw [List.append_assoc]; exact nd) (fun x hx => hL x (List.mem_cons_of_mem _ hx)) (by simp only [List.length_append, List.length_cons, List.length_nil] at *; omega)
      refine ⟨b, ?_⟩
      rw [List.append_assoc] at hb
      rw [List.map_cons]
      conv => lhs; unfold forL
      simp only [gN_ap]
      show ((Y1_mixed [.fz (nD n o), .fz (nD n w), .fz (iL done), .fz (iL now), .ow none (.dict (acc.map (entF (mixF o w done now)))), .fz (.int r)]).bind _) = _
      rw [mix_one ho hw done now (hL r List.mem_cons_self) hr (by simp only [List.length_cons] at hz; omega)]
      exact hb
  obtain ⟨b, hb⟩ := key (R n) [] .no ((R_pw n).imp fun h => by omega) (fun r h => h) (by rw [R_len]; simp; omega)
  rw [List.nil_append] at hb
  refine runB_rt (e := [.fz (nD n o), .fz (nD n w), .fz (iL done), .fz (iL now), .fz (nD n (mixF o w done now)), b]) ?_
  show B_mixed [.fz (nD n o), .fz (nD n w), .fz (iL done), .fz (iL now), .no, .no] = _
  have s1 : sOwn 4 (xConst (.dict [])) [.fz (nD n o), .fz (nD n w), .fz (iL done), .fz (iL now), .no, .no] = .ok (.nx, [.fz (nD n o), .fz (nD n w), .fz (iL done), .fz (iL now), .ow none (.dict []), .no]) := by simp
  have s2 : sFor (iIt (xn sortedD2 (aCons (xVar 0) (aNil)))) (gN 5) (Y1_mixed) [.fz (nD n o), .fz (nD n w), .fz (iL done), .fz (iL now), .ow none (.dict []), .no] = .ok (.nx, [.fz (nD n o), .fz (nD n w), .fz (iL done), .fz (iL now), .ow none (nD n (mixF o w done now)), b]) := by
    have e : iIt (xn sortedD2 (aCons (xVar 0) (aNil))) [.fz (nD n o), .fz (nD n w), .fz (iL done), .fz (iL now), .ow none (.dict []), .no] = .ok ((R n).map .int, [.fz (nD n o), .fz (nD n w), .fz (iL done), .fz (iL now), .ow none (.dict []), .no]) := by
      simp [sorted_nD]
    simp only [sFor_ap, e, Out.bind_ok]
    exact hb
  unfold B_mixed
  rw [seq_nx s1, seq_nx s2]
  generalize nD n (mixF o w done now) = Mx
  simp
theorem rsafe_ok {n : Nat} {o w : Int → List Int} (ho : Few n o) (hw : Few n w) (hn : n ≤ 100) (done now : List Int) : F_is_round_safe [nD n o, nD n w, iL done, iL now] = .ok (.bool (!cyc n (mixF o w done now))) := by
  have h1 := mixed_ok ho hw hn done now
  have h2 := leads_ok (f := mixF o w done now) hn (fun r hr => by have := mix_len ho hw done now r hr; omega)
  refine runB_rt (e := [.fz (nD n o), .fz (nD n w), .fz (iL done), .fz (iL now)]) ?_
  show B_is_round_safe [.fz (nD n o), .fz (nD n w), .fz (iL done), .fz (iL now)] = _
  unfold B_is_round_safe
  generalize nD n (mixF o w done now) = Mx at *
  generalize nD n o = O at *
  generalize nD n w = V at *
  simp [h1, h2]
end K09
set_option Elab.async false
set_option linter.all false
set_option maxRecDepth 100000
namespace K09
open PySem DP
/-! ### the law's own safe -/
theorem lsafe_one {n : Nat} {o w : Int → List Int} (ho : Few n o) (hw : Few n w) (done now : List Int) {acc : List Int} {r : Int} (hr : r ∈ R n) (hacc : r ∉ acc) (hz : acc.length ≤ 1000) :
    Y1__law_safe [.fz (nD n o), .fz (nD n w), .fz (iL done), .fz (iL now), .ow none (.dict (acc.map (entF (mixF o w done now)))), .fz (.int r)] = .ok (.nx, [.fz (nD n o), .fz (nD n w), .fz (iL done), .fz (iL now), .ow none (.dict ((acc ++ [r]).map (entF (mixF o w done now)))), .fz (.int r)]) := by
  have h1 := ho r hr
  have h2 := hw r hr
  have p := put_ent (mixF o w done now) hacc
  have e1 := ix_nD (f := o) hr
  have e2 := ix_nD (f := w) hr
  have hsz : (acc.map (entF (mixF o w done now))).length < sizeLine := by rw [List.length_map, sizeLine_eq]; omega
  generalize acc.map (entF (mixF o w done now)) = kvs at *
  unfold Y1__law_safe
  by_cases hn : r ∈ now
  · have hm : mixF o w done now r = setZ (o r ++ w r) := if_pos hn
    rw [if_yes (e1 := [.fz (nD n o), .fz (nD n w), .fz (iL done), .fz (iL now), .ow none (.dict kvs), .fz (.int r)]) (by simp [hn])]
    rw [← p, hm]
    refine setK_ok (v := iL (setZ (o r ++ w r))) (kk := .int r) (e1 := [.fz (nD n o), .fz (nD n w), .fz (iL done), .fz (iL now), .ow none (.dict kvs), .fz (.int r)]) (e2 := [.fz (nD n o), .fz (nD n w), .fz (iL done), .fz (iL now), .ow none (.dict kvs), .fz (.int r)]) ?_ rfl (by simp) rfl rfl hsz
    have e3 : sortSetID (iL (o r ++ w r)) = some (iL (setZ (o r ++ w r))) := sortSetI_ok (by rw [List.length_append]; omega)
    have e4 : addD (iL (o r)) (iL (w r)) = some (iL (o r ++ w r)) := add_iL _ _ (by omega)
    generalize nD n o = O at *
    generalize nD n w = V at *
    simp [e1, e2, e3, e4]
  · have hm : mixF o w done now r = if r ∈ done then w r else o r := if_neg hn
    rw [if_no (e1 := [.fz (nD n o), .fz (nD n w), .fz (iL done), .fz (iL now), .ow none (.dict kvs), .fz (.int r)]) (by simp [hn])]
    rw [← p, hm]
    refine setK_ok (v := iL (if r ∈ done then w r else o r)) (kk := .int r) (e1 := [.fz (nD n o), .fz (nD n w), .fz (iL done), .fz (iL now), .ow none (.dict kvs), .fz (.int r)]) (e2 := [.fz (nD n o), .fz (nD n w), .fz (iL done), .fz (iL now), .ow none (.dict kvs), .fz (.int r)]) ?_ rfl (by simp) rfl rfl hsz
    generalize nD n o = O at *
    generalize nD n w = V at *
    have q : (2 : Nat) ≤ sizeLine := by rw [sizeLine_eq]; decide
    have i1 : intD [.bool true] = some (.int 1) := rfl
    have i0 : intD [.bool false] = some (.int 0) := rfl
    have a1 : ∀ x y : D, L2.atI [x, y] 1 = some y := fun _ _ => rfl
    have a0 : ∀ x y : D, L2.atI [x, y] 0 = some x := fun _ _ => rfl
    by_cases hd : r ∈ done
    · simp [hd, e1, e2, q, i1, a1]
    · simp [hd, e1, e2, q, i0, a0]
theorem lsafe_ok {n : Nat} {o w : Int → List Int} (ho : Few n o) (hw : Few n w) (hn : n ≤ 100) (done now : List Int) : F__law_safe [nD n o, nD n w, iL done, iL now] = .ok (.bool (!cyc n (mixF o w done now))) := by
  have key : ∀ (L acc : List Int) (a : Sl), (acc ++ L).Nodup → (∀ r ∈ L, r ∈ R n) → acc.length + L.length ≤ 1000 → ∃ b, forL (gN 5) Y1__law_safe (L.map .int) [.fz (nD n o), .fz (nD n w), .fz (iL done), .fz (iL now), .ow none (.dict (acc.map (entF (mixF o w done now)))), a] =
      .ok (.nx, [.fz (nD n o), .fz (nD n w), .fz (iL done), .fz (iL now), .ow none (.dict ((acc ++ L).map (entF (mixF o w done now)))), b]) := by
    intro L
    induction L with
    | nil => intro acc a _ _ _; exact ⟨a, by rw [List.append_nil]; rfl⟩
    | cons r L ih =>
      intro acc a nd hL hz
      have hr : r ∉ acc := fun z => (List.nodup_append.mp nd).2.2 r z r List.mem_cons_self rfl
      obtain ⟨b, hb⟩ := ih (acc ++ [r]) (.fz (.int r)) (by rw [List.append_assoc]; exact nd) (fun x hx => hL x (List.mem_cons_of_mem _ hx)) (by simp only [List.length_append, List.length_cons, List.length_nil] at *; omega)
      refine ⟨b, ?_⟩
      rw [List.append_assoc] at hb
      rw [List.map_cons]
      conv => lhs; unfold forL
      simp only [gN_ap]
      show ((Y1__law_safe [.fz (nD n o), .fz (nD n w), .fz (iL done), .fz (iL now), .ow none (.dict (acc.map (entF (mixF o w done now)))), .fz (.int r)]).bind _) = _
      rw [lsafe_one ho hw done now (hL r List.mem_cons_self) hr (by simp only [List.length_cons] at hz; omega)]
      exact hb
  obtain ⟨b, hb⟩ := key (R n) [] .no ((R_pw n).imp fun h => by omega) (fun r h => h) (by rw [R_len]; simp; omega)
  rw [List.nil_append] at hb
  have h2 := round_ok (f := mixF o w done now) hn (fun r hr => by have := mix_len ho hw done now r hr; omega)
  refine runB_rt (e := [.fz (nD n o), .fz (nD n w), .fz (iL done), .fz (iL now), .fz (nD n (mixF o w done now)), b]) ?_
  show B__law_safe [.fz (nD n o), .fz (nD n w), .fz (iL done), .fz (iL now), .no, .no] = _
  have s1 : sOwn 4 (xConst (.dict [])) [.fz (nD n o), .fz (nD n w), .fz (iL done), .fz (iL now), .no, .no] = .ok (.nx, [.fz (nD n o), .fz (nD n w), .fz (iL done), .fz (iL now), .ow none (.dict []), .no]) := by simp
  have s2 : sFor (iIt (xVar 0)) (gN 5) (Y1__law_safe) [.fz (nD n o), .fz (nD n w), .fz (iL done), .fz (iL now), .ow none (.dict []), .no] = .ok (.nx, [.fz (nD n o), .fz (nD n w), .fz (iL done), .fz (iL now), .ow none (nD n (mixF o w done now)), b]) := by
    have e : iIt (xVar 0) [.fz (nD n o), .fz (nD n w), .fz (iL done), .fz (iL now), .ow none (.dict []), .no] = .ok ((R n).map .int, [.fz (nD n o), .fz (nD n w), .fz (iL done), .fz (iL now), .ow none (.dict []), .no]) := by
      simp [it_nD]
    simp only [sFor_ap, e, Out.bind_ok]
    exact hb
  unfold B__law_safe
  rw [seq_nx s1, seq_nx s2]
  generalize nD n (mixF o w done now) = Mx at *
  simp [h2]
/-! ### who changes -/
def chg (n : Nat) (o w : Int → List Int) : List Int := (R n).filter fun r => decide (o r ≠ w r)
theorem chg_len (n : Nat) (o w : Int → List Int) : (chg n o w).length ≤ n := Nat.le_trans (List.length_filter_le _ _) (Nat.le_of_eq (R_len n))
theorem changing_ok {n : Nat} {o w : Int → List Int} (hn : n ≤ 100) : F_changing [nD n o, nD n w] = .ok (iL (chg n o w)) := by
  have q := cmp_map (F := PyData.int) (g := gN 2) (ts := tst (x2 neD2 (x2 ixD (xVar 0) (xVar 2)) (x2 ixD (xVar 1) (xVar 2)))) (el := E1_changing) (vs := [2]) (env := [.fz (nD n o), .fz (nD n w), .no])
    (b := fun r => decide (o r ≠ w r)) (f := fun r => .int r) (R n) fun r hr => ⟨[.fz (nD n o), .fz (nD n w), .fz (.int r)], rfl, ?_, fun _ => by simp [E1_changing], rfl⟩
  · have h1 : iIt (xn sortedD2 (aCons (xVar 0) aNil)) [.fz (nD n o), .fz (nD n w), .no] = .ok ((R n).map .int, [.fz (nD n o), .fz (nD n w), .no]) := by simp [sorted_nD]
    have h2 := comp_ok (vs := [2]) h1 q (by have := chg_len n o w; rw [List.length_map, sizeLine_eq]; show (chg n o w).length ≤ _; omega)
    refine runB_rt (e := [.fz (nD n o), .fz (nD n w), .no]) ?_
    show B_changing [.fz (nD n o), .fz (nD n w), .no] = _
    unfold B_changing
    simp only [sRet_ap, h2, Out.bind_ok]
    rfl
  · have e1 := ix_nD (f := o) hr
    have e2 := ix_nD (f := w) hr
    generalize nD n o = O at *
    generalize nD n w = V at *
    simp [e1, e2]
end K09
set_option Elab.async false
set_option linter.all false
set_option maxRecDepth 100000
namespace K09
open PySem DP
theorem tor_ok {t u : TF} {env : Ev} {b c : Bool} (h1 : t env = .ok (b, env)) (h2 : u env = .ok (c, env)) : tOrF t u env = .ok (b || c, env) := by
  unfold tOrF
  rw [h1]
  cases b with
  | true => rfl
  | false => simp only [Out.bind_ok, Bool.false_eq_true, if_false, h2, Bool.false_or]
theorem tand_ok {t u : TF} {env : Ev} {b c : Bool} (h1 : t env = .ok (b, env)) (h2 : b = true → u env = .ok (c, env)) : tAndF t u env = .ok (b && c, env) := by
  unfold tAndF
  rw [h1]
  cases b with
  | false => rfl
  | true => simp only [Out.bind_ok, if_true, h2 rfl, Bool.true_and]
theorem tnot_ok {t : TF} {env : Ev} {b : Bool} (h1 : t env = .ok (b, env)) : tNotF t env = .ok (!b, env) := by
  unfold tNotF
  rw [h1]
  rfl
theorem tst_ok {f : XF} {env : Ev} {b : Bool} (h1 : f env = .ok (.bool b, env)) : tst f env = .ok (b, env) := by
  unfold tst
  rw [h1]
  rfl
/-! ### hops that are as they have to be -/
def okR (n : Nat) (f : Int → List Int) (r : Int) : Bool := decide ((f r).Pairwise (· < ·)) && (decide (r ∉ f r) && (f r).all fun h => decide (h ∈ R n))
def isH (n : Nat) (f : Int → List Int) : Bool := decide (1 ≤ n ∧ n ≤ 9) && (decide (((R n).filter fun r => decide (f r = [])).length = 1) && (R n).all (okR n f))
theorem hops_body {n : Nat} {f : Int → List Int} (hf : Few n f) {r : Int} (hr : r ∈ R n) (a b : Sl) :
    (okR n f r = false → ∃ e2, Y3_is_hops [.fz (nD n f), .fz (.int r), a, .no] = .ok (.rt (.bool false), e2)) ∧ (okR n f r = true → Y3_is_hops [.fz (nD n f), .fz (.int r), a, .no] = .ok (.nx, [.fz (nD n f), .fz (.int r), .fz (iL (f r)), .no])) := by
  have h1 := hf r hr
  have e1 := ix_nD (f := f) hr
  have s1 : sSet 2 (x2 ixD (xVar 0) (xVar 1)) [.fz (nD n f), .fz (.int r), a, .no] = .ok (.nx, [.fz (nD n f), .fz (.int r), .fz (iL (f r)), .no]) := by
    generalize nD n f = T at *
    simp [e1]
  have q := cmp_mapT (F := PyData.int) (g := gN 3) (el := E2_is_hops) (vs := [3]) (env := [.fz (nD n f), .fz (.int r), .fz (iL (f r)), .no]) (f := fun h => PyData.bool (decide (h ∈ R n))) (f r) fun h _ => ⟨[.fz (nD n f), .fz (.int r), .fz (iL (f r)), .fz (.int h)], rfl, by simp [E2_is_hops, in_nD], rfl⟩
  have h2 : iIt (xVar 2) [.fz (nD n f), .fz (.int r), .fz (iL (f r)), .no] = .ok ((f r).map .int, [.fz (nD n f), .fz (.int r), .fz (iL (f r)), .no]) := by simp
  have h3 := comp_ok (vs := [3]) h2 q (by rw [List.length_map, sizeLine_eq]; omega)
  have h4 : xn allD (aCons (xComp (iIt (xVar 2)) (gN 3) (tTrue) (E2_is_hops) [3]) (aNil)) [.fz (nD n f), .fz (.int r), .fz (iL (f r)), .no] = .ok (.bool ((f r).all fun h => decide (h ∈ R n)), [.fz (nD n f), .fz (.int r), .fz (iL (f r)), .no]) := by
    have e : allD [.list ((f r).map fun h => PyData.bool (decide (h ∈ R n)))] = some (.bool ((f r).all fun h => decide (h ∈ R n))) := by
      have := allD_map ((f r).map fun h => decide (h ∈ R n))
      rw [List.map_map, List.all_map] at this
      exact this
    simp only [xn_ap, aCons_ap, aNil_ap, h3, Out.bind_ok, e, liftO_some]
    rfl
  have h5 : sortSetID (iL (f r)) = some (iL (setZ (f r))) := sortSetI_ok (by omega)
  have h6 : decide (f r ≠ setZ (f r)) = !decide ((f r).Pairwise (· < ·)) := by
    rw [Bool.eq_iff_iff]
    simp only [decide_eq_true_eq, ne_eq, Bool.not_eq_true', decide_eq_false_iff_not, rising_eq]
  unfold Y3_is_hops
  rw [seq_nx s1]
  unfold okR
  have t : (tOrF (tst (x2 neD2 (xn listD2 (aCons (xVar 2) (aNil))) (xSortSetI (xVar 2)))) (tOrF (tst (x2 inD2 (xVar 1) (xVar 2))) (tNotF (tst (xn allD (aCons (xComp (iIt (xVar 2)) (gN 3) (tTrue) (E2_is_hops) [3]) (aNil))))))) [.fz (nD n f), .fz (.int r), .fz (iL (f r)), .no] =
      .ok (!(decide ((f r).Pairwise (· < ·)) && (decide (r ∉ f r) && (f r).all fun h => decide (h ∈ R n))), [.fz (nD n f), .fz (.int r), .fz (iL (f r)), .no]) := by
    have g1 : (tst (x2 neD2 (xn listD2 (aCons (xVar 2) (aNil))) (xSortSetI (xVar 2)))) [.fz (nD n f), .fz (.int r), .fz (iL (f r)), .no] = .ok (!decide ((f r).Pairwise (· < ·)), [.fz (nD n f), .fz (.int r), .fz (iL (f r)), .no]) := by
      rw [← h6]
      generalize nD n f = T at *
      simp [h5]
    have g2 : (tst (x2 inD2 (xVar 1) (xVar 2))) [.fz (nD n f), .fz (.int r), .fz (iL (f r)), .no] = .ok (decide (r ∈ f r), [.fz (nD n f), .fz (.int r), .fz (iL (f r)), .no]) := by
      generalize nD n f = T at *
      simp
    rw [tor_ok g1 (tor_ok g2 (tnot_ok (tst_ok h4)))]
    congr 2
    by_cases p1 : (f r).Pairwise (· < ·) <;> by_cases p2 : r ∈ f r <;> simp [p1, p2]
  refine ⟨fun hk => ?_, fun hk => ?_⟩
  · rw [hk] at t
    rw [if_yes t]
    exact ⟨_, rfl⟩
  · rw [hk] at t
    rw [if_no t]
    rfl
theorem hops_ok {n : Nat} {f : Int → List Int} (hn : n ≤ 100) (hf : Few n f) : F_is_hops [nD n f] = .ok (.bool (isH n f)) := by
  have e0 : (tst (xChain leD leD (xConst (.int 1)) (xn lenD (aCons (xVar 0) (aNil))) (xConst (.int 9)))) [.fz (nD n f), .no, .no, .no] = .ok (decide (1 ≤ n ∧ n ≤ 9), [.fz (nD n f), .no, .no, .no]) := by
    have e := len_nD n f
    generalize nD n f = T at *
    by_cases h1 : (1 : Int) ≤ n
    · have h1' : 1 ≤ n := by omega
      simp [e, h1, h1']
      omega
    · have h1' : ¬ 1 ≤ n := by omega
      simp [e, h1, h1']
  have q := cmp_map (F := PyData.int) (g := gN 1) (ts := tst (x2 eqD2 (xn lenD (aCons (x2 ixD (xVar 0) (xVar 1)) (aNil))) (xConst (.int 0)))) (el := E1_is_hops) (vs := [1]) (env := [.fz (nD n f), .no, .no, .no])
    (b := fun r => decide (f r = [])) (f := fun r => .int r) (R n) fun r hr => ⟨[.fz (nD n f), .fz (.int r), .no, .no], rfl, by
      have e1 := ix_nD (f := f) hr
      generalize nD n f = T at *
      simp [e1], fun _ => by simp [E1_is_hops], rfl⟩
  have h1 : iIt (xVar 0) [.fz (nD n f), .no, .no, .no] = .ok ((R n).map .int, [.fz (nD n f), .no, .no, .no]) := by simp [it_nD]
  have hfl : ((R n).filter fun r => decide (f r = [])).length ≤ n := Nat.le_trans (List.length_filter_le _ _) (Nat.le_of_eq (R_len n))
  have h2 := comp_ok (vs := [1]) h1 q (by rw [List.length_map, sizeLine_eq]; omega)
  have e1 : (tst (x2 neD2 (xn lenD (aCons (xComp (iIt (xVar 0)) (gN 1) (tst (x2 eqD2 (xn lenD (aCons (x2 ixD (xVar 0) (xVar 1)) (aNil))) (xConst (.int 0)))) (E1_is_hops) [1]) (aNil))) (xConst (.int 1)))) [.fz (nD n f), .no, .no, .no] = .ok (!decide (((R n).filter fun r => decide (f r = [])).length = 1), [.fz (nD n f), .no, .no, .no]) := by
    have hb : backE [.fz (nD n f), .no, .no, .no] [.fz (nD n f), .no, .no, .no] [1] = [.fz (nD n f), .no, .no, .no] := rfl
    rw [hb] at h2
    simp only [tst_ap, x2_ap, xn_ap, aCons_ap, aNil_ap, h2, Out.bind_ok, lenD_l, liftO_some, xConst_ap, ne2_int, asB_bool]
    congr 2
    rw [List.length_map, Bool.eq_iff_iff]
    simp only [decide_eq_true_eq, Bool.not_eq_true', decide_eq_false_iff_not, ne_eq]
    omega
  have e2 : (tOrF (tNotF (tst (xChain leD leD (xConst (.int 1)) (xn lenD (aCons (xVar 0) (aNil))) (xConst (.int 9))))) (tst (x2 neD2 (xn lenD (aCons (xComp (iIt (xVar 0)) (gN 1) (tst (x2 eqD2 (xn lenD (aCons (x2 ixD (xVar 0) (xVar 1)) (aNil))) (xConst (.int 0)))) (E1_is_hops) [1]) (aNil))) (xConst (.int 1))))) [.fz (nD n f), .no, .no, .no] =
      .ok (!(decide (1 ≤ n ∧ n ≤ 9) && decide (((R n).filter fun r => decide (f r = [])).length = 1)), [.fz (nD n f), .no, .no, .no]) := by
    rw [tor_ok (tnot_ok e0) e1, Bool.not_and]
  have hw : B_is_hops [.fz (nD n f), .no, .no, .no] = B_is_hops [.fz (nD n f), .no, .no, .no] := rfl
  unfold isH
  by_cases hA : (decide (1 ≤ n ∧ n ≤ 9) && decide (((R n).filter fun r => decide (f r = [])).length = 1)) = true
  · rw [hA] at e2
    have hs : (decide (1 ≤ n ∧ n ≤ 9) && (decide (((R n).filter fun r => decide (f r = [])).length = 1) && (R n).all (okR n f))) = (R n).all (okR n f) := by
      rw [← Bool.and_assoc, hA, Bool.true_and]
    rw [hs]
    have lp := for_first (F := PyData.int) (g := gN 1) (body := Y3_is_hops) (b := fun r => !okR n f r) (k := fun _ => .bool false) (fun env => ∃ a b, env = [.fz (nD n f), a, b, .no]) (R n) [.fz (nD n f), .no, .no, .no] (by
      rintro r hr env ⟨a, b, rfl⟩
      obtain ⟨g1, g2⟩ := hops_body hf hr b .no
      exact ⟨[.fz (nD n f), .fz (.int r), b, .no], rfl, fun h => g1 (by simpa using h), fun h => ⟨_, g2 (by simpa using h), _, _, rfl⟩⟩) ⟨_, _, rfl⟩
    rcases lp with ⟨r, e3, h3, h4⟩ | ⟨e3, h3, h4, h5⟩
    · have hr := List.mem_of_find?_eq_some h3
      have hb : okR n f r = false := by simpa using List.find?_some h3
      have : (R n).all (okR n f) = false := by rw [Bool.eq_false_iff]; exact fun z => by have := List.all_eq_true.mp z r hr; rw [hb] at this; cases this
      rw [this]
      refine runB_rt (e := e3) ?_
      show B_is_hops [.fz (nD n f), .no, .no, .no] = _
      unfold B_is_hops
      rw [seq_nx (f := sIf _ _ _) (e1 := [.fz (nD n f), .no, .no, .no]) (by rw [if_no e2]; rfl)]
      refine seq_rt ?_
      simp only [sFor_ap, h1, Out.bind_ok]
      exact h4
    · have : (R n).all (okR n f) = true := List.all_eq_true.mpr fun r hr => by
        have := List.find?_eq_none.mp h3 r hr
        simpa using this
      rw [this]
      refine runB_rt (e := e3) ?_
      show B_is_hops [.fz (nD n f), .no, .no, .no] = _
      unfold B_is_hops
      rw [seq_nx (f := sIf _ _ _) (e1 := [.fz (nD n f), .no, .no, .no]) (by rw [if_no e2]; rfl)]
      rw [seq_nx (e1 := e3) (by simp only [sFor_ap, h1, Out.bind_ok]; exact h4)]
      rfl
  · have hA' := Bool.eq_false_iff.mpr hA
    rw [hA'] at e2
    have hs : (decide (1 ≤ n ∧ n ≤ 9) && (decide (((R n).filter fun r => decide (f r = [])).length = 1) && (R n).all (okR n f))) = false := by
      rw [← Bool.and_assoc, hA', Bool.false_and]
    rw [hs]
    refine runB_rt (e := [.fz (nD n f), .no, .no, .no]) ?_
    show B_is_hops [.fz (nD n f), .no, .no, .no] = _
    unfold B_is_hops
    refine seq_rt ?_
    rw [if_yes e2]
    rfl
end K09
set_option Elab.async false
set_option linter.all false
set_option maxRecDepth 100000
namespace K09
open PySem DP
/-! ### what is refused -/
def chk (n : Nat) (o : Int → List Int) (m : Nat) (w : Int → List Int) : Option Int := if isH n o = false then some 0 else if isH m w = false ∨ m ≠ n then some 1 else if cyc n o = true then some 2 else if cyc m w = true then some 3 else none
def chkO (k : Option Int) (r : Out D) : Prop := match k with
  | none => r = .ok .none
  | some i => ∃ e, r = .exc "BadChange" (.int i) e
theorem Few.len {n : Nat} {f : Int → List Int} (h : Few n f) : ∀ r ∈ R n, (f r).length ≤ 1000 := fun r hr => by have := h r hr; omega
theorem R_inj {n m : Nat} (h : R m = R n) : m = n := by
  have := congrArg List.length h
  rwa [R_len, R_len] at this
theorem check_ok {n m : Nat} {o w : Int → List Int} (hn : n ≤ 100) (hm : m ≤ 100) (ho : Few n o) (hw : Few m w) : chkO (chk n o m w) (F_check_change [nD n o, nD m w]) := by
  have h1 := hops_ok hn ho
  have h2 := hops_ok hm hw
  have h3 := leads_ok hn ho.len
  have h4 := leads_ok hm hw.len
  have h5 := sorted_nD n o
  have h6 := sorted_nD m w
  have h7 : decide (R m ≠ R n) = decide (m ≠ n) := by
    rw [Bool.eq_iff_iff]
    simp only [decide_eq_true_eq]
    exact not_congr ⟨R_inj, fun e => by rw [e]⟩
  unfold chk F_check_change runB B_check_change
  generalize nD n o = O at *
  generalize nD m w = V at *
  cases e1 : isH n o with
  | false => simp [h1, e1, chkO]
  | true =>
    cases e2 : isH m w with
    | false => simp [h1, h2, e1, e2, chkO]
    | true =>
      by_cases e3 : m = n
      · subst e3
        cases e4 : cyc m o with
        | true => simp [h1, h2, h3, h5, h6, h7, e1, e2, e4, chkO]
        | false =>
          cases e5 : cyc m w with
          | true => simp [h1, h2, h3, h4, h5, h6, h7, e1, e2, e4, e5, chkO]
          | false => simp [h1, h2, h3, h4, h5, h6, h7, e1, e2, e4, e5, chkO]
      · have h8 : ¬ R m = R n := fun z => e3 (R_inj z)
        simp [h1, h2, h5, h6, h8, e1, e2, e3, chkO]
end K09
set_option Elab.async false
set_option linter.all false
set_option maxRecDepth 100000
namespace K09
open PySem DP
/-! ### all selections -/
def sD (L : List (List Int)) : D := .list (L.map iL)
def tagD (t : List Int) : D := .tuple [.int (-(t.length : Int)), iL t]
def leS (a b : List Int) : Bool := dLe (tagD a) (tagD b)
def grow (L : List (List Int)) (x : Int) : List (List Int) := L ++ L.map fun t => t ++ [x]
def subs (xs : List Int) : List (List Int) := (xs.foldl grow [[]]).mergeSort leS
theorem grow_len (L : List (List Int)) (x : Int) : (grow L x).length = L.length * 2 := by
  unfold grow
  rw [List.length_append, List.length_map]
  omega
theorem srtOk_tags (L : List (List Int)) : srtOk (L.map tagD) = true := by
  have al : ∀ a b : List Int, PySem.W.alike (tagD a) (tagD b) = true := fun a b => by
    have := PySem.W.alike_ints a b
    unfold tagD iL
    simp only [PySem.W.alike, PySem.W.alikeAll, this, Bool.and_self]
  have dp : ∀ a : List Int, (tagD a).depth ≤ 60 := fun a => by
    unfold tagD
    simp [PyData.depth, PyData.depthAll, iL_depth]
  simp only [srtOk, Bool.and_eq_true, Bool.or_eq_true, List.all_eq_true, List.mem_map, decide_eq_true_eq]
  refine ⟨⟨?_, .inl ?_⟩, ?_⟩
  · rintro x ⟨a, _, rfl⟩ y ⟨b, _, rfl⟩
    exact al a b
  · rintro x ⟨a, _, rfl⟩
    rfl
  · rintro x ⟨a, _, rfl⟩
    exact dp a
theorem sorted_tags (L : List (List Int)) : sortedD2 [.list (L.map tagD)] = some (.list ((L.mergeSort leS).map tagD)) := by
  show (if srtOk (L.map tagD) = true then some (PyData.list (sortL (L.map tagD))) else none) = _
  rw [if_pos (srtOk_tags L)]
  unfold sortL
  rw [(List.map_mergeSort (r := leS) (s := dLe) (f := tagD) (l := L) fun a _ b _ => rfl)]
theorem grow_foldl_len : ∀ (xs : List Int) (L : List (List Int)), (xs.foldl grow L).length = L.length * 2 ^ xs.length
  | [], L => by simp
  | x :: xs, L => by
    rw [List.foldl_cons, grow_foldl_len xs, grow_len, List.length_cons, Nat.pow_succ', Nat.mul_assoc]
theorem pow6 {k : Nat} (h : k ≤ 9) : 2 ^ k ≤ 512 := Nat.le_trans (Nat.pow_le_pow_right (by decide) h) (by decide)
/-- the end of both defs -/
theorem subs_end {E3 E4 : XF} {L : List (List Int)} {T : D} {a : Sl} (hL : L.length ≤ 10000) (h3 : ∀ t : List Int, E3 [.fz T, .fz (sD L), a, .no, .fz (iL t)] = .ok (tagD t, [.fz T, .fz (sD L), a, .no, .fz (iL t)])) (h4 : ∀ (x : D) (t : List Int), E4 [.fz T, .fz (sD L), a, .fz x, .fz (iL t)] = .ok (iL t, [.fz T, .fz (sD L), a, .fz x, .fz (iL t)])) :
    xComp (iIt (xn sortedD2 (aCons (xComp (iIt (xVar 1)) (gN 4) (tTrue) (E3) [4]) (aNil)))) (gT (glCons (gN 3) (glCons (gN 4) (glNil)))) (tTrue) (E4) [3, 4] [.fz T, .fz (sD L), a, .no, .no] = .ok (sD (L.mergeSort leS), [.fz T, .fz (sD L), a, .no, .no]) := by
  have q1 := cmp_mapT (F := iL) (g := gN 4) (el := E3) (vs := [4]) (env := [.fz T, .fz (sD L), a, .no, .no]) (f := tagD) L fun t _ => ⟨[.fz T, .fz (sD L), a, .no, .fz (iL t)], rfl, h3 t, rfl⟩
  have g1 : iIt (xVar 1) [.fz T, .fz (sD L), a, .no, .no] = .ok (L.map iL, [.fz T, .fz (sD L), a, .no, .no]) := by
    simp [sD]
  have g2 := comp_ok (vs := [4]) g1 q1 (by rw [List.length_map, sizeLine_eq]; omega)
  have g3 : iIt (xn sortedD2 (aCons (xComp (iIt (xVar 1)) (gN 4) (tTrue) (E3) [4]) (aNil))) [.fz T, .fz (sD L), a, .no, .no] = .ok ((L.mergeSort leS).map tagD, [.fz T, .fz (sD L), a, .no, .no]) := by
    simp only [iIt_ap, xn_ap, aCons_ap, aNil_ap, g2, Out.bind_ok, sorted_tags, liftO_some, itD_l]
    rfl
  have q2 := cmp_mapT (F := tagD) (g := gT (glCons (gN 3) (glCons (gN 4) (glNil)))) (el := E4) (vs := [3, 4]) (env := [.fz T, .fz (sD L), a, .no, .no]) (f := iL) (L.mergeSort leS) fun t _ => ⟨[.fz T, .fz (sD L), a, .fz (.int (-(t.length : Int))), .fz (iL t)], rfl, h4 _ t, rfl⟩
  have g4 := comp_ok (vs := [3, 4]) g3 q2 (by rw [List.length_map, List.length_mergeSort, sizeLine_eq]; omega)
  exact g4
theorem sub_step {E1 : XF} {Y : SF} (hY : ∀ env, Y env = sSet 1 (x2 addD (xVar 1) (xComp (iIt (xVar 1)) (gN 4) (tTrue) (E1) [4])) env) {L : List (List Int)} {T : D} {x : Int} (hL : L.length ≤ 5000) (h1 : ∀ t ∈ L, E1 [.fz T, .fz (sD L), .fz (.int x), .no, .fz (iL t)] = .ok (iL (t ++ [x]), [.fz T, .fz (sD L), .fz (.int x), .no, .fz (iL t)])) :
    Y [.fz T, .fz (sD L), .fz (.int x), .no, .no] = .ok (.nx, [.fz T, .fz (sD (grow L x)), .fz (.int x), .no, .no]) := by
  have q1 := cmp_mapT (F := iL) (g := gN 4) (el := E1) (vs := [4]) (env := [.fz T, .fz (sD L), .fz (.int x), .no, .no]) (f := fun t => iL (t ++ [x])) L fun t ht => ⟨[.fz T, .fz (sD L), .fz (.int x), .no, .fz (iL t)], rfl, h1 t ht, rfl⟩
  have g1 : iIt (xVar 1) [.fz T, .fz (sD L), .fz (.int x), .no, .no] = .ok (L.map iL, [.fz T, .fz (sD L), .fz (.int x), .no, .no]) := by
    simp [sD]
  have g2 := comp_ok (vs := [4]) g1 q1 (by rw [List.length_map, sizeLine_eq]; omega)
  have e : addD (sD L) (.list (L.map fun t => iL (t ++ [x]))) = some (sD (grow L x)) := by
    unfold addD sD
    simp only
    rw [if_pos (by rw [List.length_map, List.length_map, sizeLine_eq]; omega)]
    unfold grow
    rw [List.map_append, List.map_map]
    rfl
  rw [hY]
  simp only [sSet_ap, x2_ap]
  rw [xVar_fz (d := sD L) rfl]
  simp only [Out.bind_ok, g2, e, liftO_some]
  rfl
theorem sub_loop {Y : SF} {T : D} (step : ∀ (L : List (List Int)) (x : Int), L.length ≤ 5000 → (∀ t ∈ L, t.length ≤ 100) → Y [.fz T, .fz (sD L), .fz (.int x), .no, .no] = .ok (.nx, [.fz T, .fz (sD (grow L x)), .fz (.int x), .no, .no])) {xs : List Int} (hx : xs.length ≤ 9) :
    ∃ a, forL (gN 2) Y (xs.map .int) [.fz T, .fz (sD [[]]), .no, .no, .no] = .ok (.nx, [.fz T, .fz (sD (xs.foldl grow [[]])), a, .no, .no]) := by
  obtain ⟨e2, h1, a, h2, _⟩ := for_fold (F := PyData.int) (g := gN 2) (body := Y) (st := grow) (fun n L env => ∃ a, env = [.fz T, .fz (sD L), a, .no, .no] ∧ L.length * 2 ^ n ≤ 512 ∧ ∀ t ∈ L, t.length + n ≤ 9) xs [[]] [.fz T, .fz (sD [[]]), .no, .no, .no] (by
    rintro x hx n L env ⟨a, rfl, hl, ht⟩
    have hp : 1 ≤ 2 ^ n := Nat.one_le_two_pow
    have hl2 : L.length * 2 ^ (n + 1) = L.length * 2 * 2 ^ n := by rw [Nat.pow_succ', Nat.mul_assoc]
    have hl3 : L.length * 2 ≤ 512 := Nat.le_trans (Nat.le_mul_of_pos_right _ hp) (by omega)
    refine ⟨_, _, rfl, step L x (by omega) (fun t h => by have := ht t h; omega), _, rfl, by rw [grow_len]; omega, fun t h => ?_⟩
    rcases List.mem_append.mp h with q | q
    · have := ht t q; omega
    · obtain ⟨u, hu, rfl⟩ := List.mem_map.mp q
      have := ht u hu
      rw [List.length_append, List.length_singleton]
      omega) ⟨_, rfl, by have := pow6 hx; simp; omega, fun t h => by
        rw [List.mem_singleton.mp h]
        simp; omega⟩
  exact ⟨a, by rw [h1, h2]⟩
theorem one0 : (1 : Nat) ≤ sizeLine := by rw [sizeLine_eq]; decide
theorem two0 : (2 : Nat) ≤ sizeLine := by rw [sizeLine_eq]; decide
theorem zero0 : (0 : Nat) ≤ sizeLine := Nat.zero_le _
theorem subsets_ok {xs : List Int} (hx : xs.length ≤ 9) : F_subsets [iL xs] = .ok (sD (subs xs)) := by
  obtain ⟨a, h1⟩ := sub_loop (Y := Y2_subsets) (T := iL xs) (fun L x hL ht => sub_step (E1 := E1_subsets) (fun _ => rfl) hL fun t h => by
    have hz : (t.map PyData.int ++ [PyData.int x]).length ≤ sizeLine := by
      rw [List.length_append, List.length_map, sizeLine_eq]
      have := ht t h
      simp; omega
    unfold E1_subsets
    simp only [xLst_ap, aStar_ap, aCons_ap, aNil_ap]
    rw [xVar_fz (d := iL t) rfl]
    simp only [Out.bind_ok, iL, seqO_l]
    rw [xVar_fz (d := .int x) rfl]
    simp only [Out.bind_ok]
    rw [if_pos hz, List.map_append]
    rfl) hx
  have hl : (xs.foldl grow [[]]).length ≤ 10000 := by
    rw [grow_foldl_len]
    have := pow6 hx
    simp; omega
  refine runB_rt (e := [.fz (iL xs), .fz (sD (xs.foldl grow [[]])), a, .no, .no]) ?_
  show B_subsets [.fz (iL xs), .no, .no, .no, .no] = _
  have s1 : sSet 1 (xLst (aCons (xLst (aNil)) (aNil))) [.fz (iL xs), .no, .no, .no, .no] = .ok (.nx, [.fz (iL xs), .fz (sD [[]]), .no, .no, .no]) := by
    simp [zero0, one0, sD, iL]
  have s2 : sFor (iIt (xVar 0)) (gN 2) (Y2_subsets) [.fz (iL xs), .fz (sD [[]]), .no, .no, .no] = .ok (.nx, [.fz (iL xs), .fz (sD (xs.foldl grow [[]])), a, .no, .no]) := by
    have e : iIt (xVar 0) [.fz (iL xs), .fz (sD [[]]), .no, .no, .no] = .ok (xs.map .int, [.fz (iL xs), .fz (sD [[]]), .no, .no, .no]) := by simp
    simp only [sFor_ap, e, Out.bind_ok]
    exact h1
  unfold B_subsets
  rw [seq_nx s1, seq_nx s2]
  simp only [sRet_ap]
  rw [subs_end (E3 := E3_subsets) (E4 := E4_subsets) hl (fun t => ?_) (fun x t => ?_)]
  · rfl
  · unfold E3_subsets
    generalize sD (xs.foldl grow [[]]) = S
    simp [two0, tagD]
  · unfold E4_subsets
    simp
theorem lsets_ok {xs : List Int} (hx : xs.length ≤ 9) : F__law_sets [iL xs] = .ok (sD (subs xs)) := by
  obtain ⟨a, h1⟩ := sub_loop (Y := Y2__law_sets) (T := iL xs) (fun L x hL ht => sub_step (E1 := E1__law_sets) (fun _ => rfl) hL fun t h => by
    have e : addD (iL t) (iL [x]) = some (iL (t ++ [x])) := add_iL t [x] (by have := ht t h; simp; omega)
    have e' : addD (iL t) (.list [.int x]) = some (iL (t ++ [x])) := e
    unfold E1__law_sets
    generalize sD L = S
    simp [one0, e']) hx
  have hl : (xs.foldl grow [[]]).length ≤ 10000 := by
    rw [grow_foldl_len]
    have := pow6 hx
    simp; omega
  refine runB_rt (e := [.fz (iL xs), .fz (sD (xs.foldl grow [[]])), a, .no, .no]) ?_
  show B__law_sets [.fz (iL xs), .no, .no, .no, .no] = _
  have s1 : sSet 1 (xLst (aCons (xLst (aNil)) (aNil))) [.fz (iL xs), .no, .no, .no, .no] = .ok (.nx, [.fz (iL xs), .fz (sD [[]]), .no, .no, .no]) := by
    simp [zero0, one0, sD, iL]
  have s2 : sFor (iIt (xVar 0)) (gN 2) (Y2__law_sets) [.fz (iL xs), .fz (sD [[]]), .no, .no, .no] = .ok (.nx, [.fz (iL xs), .fz (sD (xs.foldl grow [[]])), a, .no, .no]) := by
    have e : iIt (xVar 0) [.fz (iL xs), .fz (sD [[]]), .no, .no, .no] = .ok (xs.map .int, [.fz (iL xs), .fz (sD [[]]), .no, .no, .no]) := by simp
    simp only [sFor_ap, e, Out.bind_ok]
    exact h1
  unfold B__law_sets
  rw [seq_nx s1, seq_nx s2]
  simp only [sRet_ap]
  rw [subs_end (E3 := E3__law_sets) (E4 := E4__law_sets) hl (fun t => ?_) (fun x t => ?_)]
  · rfl
  · unfold E3__law_sets
    generalize sD (xs.foldl grow [[]]) = S
    simp [two0, tagD]
  · unfold E4__law_sets
    simp
/-! members -/
theorem grow_mem {xs : List Int} : ∀ (ys : List Int) (L : List (List Int)), (∀ t ∈ L, t.Sublist ys) → ∀ t ∈ xs.foldl grow L, t.Sublist (ys ++ xs) := by
  induction xs with
  | nil => intro ys L h t ht; rw [List.append_nil]; exact h t ht
  | cons x xs ih =>
    intro ys L h t ht
    have := ih (ys ++ [x]) (grow L x) (fun u hu => by
      rcases List.mem_append.mp hu with q | q
      · exact (h u q).trans (List.sublist_append_left _ _)
      · obtain ⟨v, hv, rfl⟩ := List.mem_map.mp q
        exact (h v hv).append (List.Sublist.refl _)) t ht
    rwa [List.append_assoc] at this
theorem subs_sub {xs t : List Int} (h : t ∈ subs xs) : t.Sublist xs := by
  unfold subs at h
  have := grow_mem (xs := xs) [] [[]] (fun t h => by rw [List.mem_singleton.mp h]; exact List.Sublist.refl _) t ((List.mergeSort_perm _ _).mem_iff.mp h)
  simpa using this
theorem grow_keep {xs : List Int} : ∀ (L : List (List Int)), ∀ t ∈ L, t ∈ xs.foldl grow L := by
  induction xs with
  | nil => exact fun L t h => h
  | cons x xs ih => exact fun L t h => ih (grow L x) t (List.mem_append_left _ h)
theorem grow_one {xs : List Int} {r : Int} (h : r ∈ xs) : ∀ L : List (List Int), [] ∈ L → [r] ∈ xs.foldl grow L := by
  induction xs with
  | nil => cases h
  | cons x xs ih =>
    intro L hL
    rcases List.mem_cons.mp h with q | q
    · subst q
      exact grow_keep (xs := xs) (grow L r) [r] (List.mem_append_right _ (List.mem_map.mpr ⟨[], hL, rfl⟩))
    · exact ih q _ (List.mem_append_left _ hL)
theorem subs_one {xs : List Int} {r : Int} (h : r ∈ xs) : [r] ∈ subs xs := (List.mergeSort_perm _ _).mem_iff.mpr (grow_one h _ (by simp))
end K09
set_option Elab.async false
set_option linter.all false
set_option maxRecDepth 100000
namespace K09
open PySem DP
/-! ### rings -/
/-- each of K has a hop in K -/
def Core (n : Nat) (f : Int → List Int) (K : List Int) : Prop := K ≠ [] ∧ (∀ r ∈ K, r ∈ R n) ∧ ∀ r ∈ K, ∃ h ∈ f r, h ∈ K
theorem mem_stp {f : Int → List Int} {l : List Int} {r : Int} : r ∈ stp f l ↔ r ∈ l ∧ ∃ h ∈ f r, h ∈ l := by
  unfold stp
  rw [List.mem_filter]
  simp only [List.any_eq_true, decide_eq_true_eq]
theorem core_in {n : Nat} {f : Int → List Int} {K : List Int} (h : Core n f K) : ∀ k : Nat, ∀ r ∈ K, r ∈ itr f k (R n)
  | 0, r, hr => h.2.1 r hr
  | k + 1, r, hr => by
    rw [itr_succ, mem_stp]
    obtain ⟨x, h1, h2⟩ := h.2.2 r hr
    exact ⟨core_in h k r hr, x, h1, core_in h k x h2⟩
theorem itr_sub {n : Nat} {f : Int → List Int} : ∀ k : Nat, ∀ r ∈ itr f k (R n), r ∈ R n
  | 0, r, h => h
  | k + 1, r, h => by rw [itr_succ] at h; exact itr_sub k r (stp_sub h)
theorem itr_len {n : Nat} {f : Int → List Int} : ∀ k : Nat, stp f (itr f k (R n)) = itr f k (R n) ∨ (itr f k (R n)).length + k ≤ n
  | 0 => .inr (by rw [Nat.add_zero]; exact Nat.le_of_eq (R_len n))
  | k + 1 => by
    rw [itr_succ]
    rcases itr_len (n := n) (f := f) k with h | h
    · left; rw [h, h]
    · by_cases hl : (itr f k (R n)).length ≤ (stp f (itr f k (R n))).length
      · have e : stp f (itr f k (R n)) = itr f k (R n) := filter_len _ hl
        left; rw [e, e]
      · right; omega
theorem itr_done {n : Nat} {f : Int → List Int} : stp f (itr f n (R n)) = itr f n (R n) := by
  rcases itr_len (n := n) (f := f) n with h | h
  · exact h
  · have : itr f n (R n) = [] := List.eq_nil_of_length_eq_zero (by omega)
    rw [this]; rfl
theorem cyc_iff {n : Nat} {f : Int → List Int} : cyc n f = true ↔ ∃ K, Core n f K := by
  unfold cyc
  rw [decide_eq_true_eq]
  constructor
  · intro h
    refine ⟨_, h, itr_sub n, fun r hr => ?_⟩
    rw [← itr_done, mem_stp] at hr
    exact hr.2
  · rintro ⟨K, h⟩ z
    obtain ⟨r, hr⟩ := List.exists_mem_of_ne_nil K h.1
    have := core_in h n r hr
    rw [z] at this
    cases this
theorem cyc_mono {n : Nat} {f g : Int → List Int} (h : ∀ r ∈ R n, ∀ x ∈ f r, x ∈ g r) (k : cyc n g = false) : cyc n f = false := by
  cases e : cyc n f with
  | false => rfl
  | true =>
    obtain ⟨K, k1, k2, k3⟩ := cyc_iff.mp e
    have : cyc n g = true := cyc_iff.mpr ⟨K, k1, k2, fun r hr => by
      obtain ⟨x, h1, h2⟩ := k3 r hr
      exact ⟨x, h r (k2 r hr) x h1, h2⟩⟩
    rw [k] at this
    cases this
/-- falling numbers: no ring -/
theorem cyc_rank {n : Nat} {f : Int → List Int} (rk : Int → Nat) (h : ∀ r ∈ R n, ∀ x ∈ f r, rk x < rk r) : cyc n f = false := by
  cases e : cyc n f with
  | false => rfl
  | true =>
    obtain ⟨K, k1, k2, k3⟩ := cyc_iff.mp e
    exfalso
    have : ∀ m : Nat, ∀ r ∈ K, rk r < m → False := by
      intro m
      induction m with
      | zero => exact fun r _ h => absurd h (Nat.not_lt_zero _)
      | succ m ih =>
        intro r hr hm
        obtain ⟨x, h1, h2⟩ := k3 r hr
        exact ih x h2 (by have := h r (k2 r hr) x h1; omega)
    obtain ⟨r, hr⟩ := List.exists_mem_of_ne_nil K k1
    exact this _ r hr (Nat.lt_succ_self _)
/-- y is reached from x -/
inductive Rc (w : Int → List Int) : Int → Int → Prop
  | one {x h : Int} : h ∈ w x → Rc w x h
  | more {x h y : Int} : h ∈ w x → Rc w h y → Rc w x y
theorem Rc.snoc {w : Int → List Int} {x y z : Int} (h : Rc w x y) (k : z ∈ w y) : Rc w x z := by
  induction h with
  | one h1 => exact .more h1 (.one k)
  | more h1 _ ih => exact .more h1 (ih k)
theorem Rc.in_R {n : Nat} {w : Int → List Int} (hw : ∀ r ∈ R n, ∀ h ∈ w r, h ∈ R n) {x y : Int} (h : Rc w x y) (hx : x ∈ R n) : y ∈ R n := by
  induction h with
  | one h1 => exact hw _ hx _ h1
  | more h1 _ ih => exact ih (hw _ hx _ h1)
def lft (n : Nat) (o w : Int → List Int) (done : List Int) : List Int := (chg n o w).filter fun r => decide (r ∉ done)
theorem mem_chg {n : Nat} {o w : Int → List Int} {r : Int} : r ∈ chg n o w ↔ r ∈ R n ∧ o r ≠ w r := by
  unfold chg
  rw [List.mem_filter, decide_eq_true_eq]
theorem mem_lft {n : Nat} {o w : Int → List Int} {done : List Int} {r : Int} : r ∈ lft n o w done ↔ r ∈ R n ∧ o r ≠ w r ∧ r ∉ done := by
  unfold lft
  rw [List.mem_filter, mem_chg, decide_eq_true_eq, and_assoc]
/-- one router, all it reaches at its new hops has been through: safe -/
theorem one_safe {n : Nat} {o w : Int → List Int} {done : List Int} (hw : ∀ r ∈ R n, ∀ h ∈ w r, h ∈ R n) (a1 : cyc n (mixF o w done []) = false) (a2 : cyc n w = false) {r : Int} (hr : r ∈ lft n o w done)
    (hx : ∀ y, Rc w r y → y ∉ lft n o w done) : cyc n (mixF o w done [r]) = false := by
  have hrn := (mem_lft.mp hr).1
  have hrd := (mem_lft.mp hr).2.2
  have same : ∀ x, Rc w r x → mixF o w done [r] x = w x := fun x h => by
    have hxn : x ≠ r := fun z => hx r (z ▸ h) hr
    have hxR := h.in_R hw hrn
    unfold mixF
    rw [if_neg (by simpa using hxn)]
    by_cases hd : x ∈ done
    · rw [if_pos hd]
    · rw [if_neg hd]
      exact Classical.byContradiction fun z => hx x h (mem_lft.mpr ⟨hxR, z, hd⟩)
  cases e : cyc n (mixF o w done [r]) with
  | false => rfl
  | true =>
    obtain ⟨K, k1, k2, k3⟩ := cyc_iff.mp e
    exfalso
    by_cases hm : ∃ x ∈ K, Rc w r x
    · obtain ⟨x, hxK, hxR⟩ := hm
      haveI := Classical.propDecidable
      have : cyc n w = true := cyc_iff.mpr ⟨K.filter (fun x => decide (Rc w r x)), (fun z => by
        have : x ∈ K.filter (fun x => decide (Rc w r x)) := List.mem_filter.mpr ⟨hxK, decide_eq_true hxR⟩
        rw [z] at this
        cases this), fun y hy => k2 y (List.mem_filter.mp hy).1, fun y hy => by
          obtain ⟨hy1, hy2⟩ := List.mem_filter.mp hy
          have hy2 := of_decide_eq_true hy2
          obtain ⟨h, h1, h2⟩ := k3 y hy1
          rw [same y hy2] at h1
          exact ⟨h, h1, List.mem_filter.mpr ⟨h2, decide_eq_true (hy2.snoc h1)⟩⟩⟩
      rw [a2] at this
      cases this
    · have : cyc n (mixF o w done []) = true := cyc_iff.mpr ⟨K, k1, k2, fun y hy => by
        obtain ⟨h, h1, h2⟩ := k3 y hy
        refine ⟨h, ?_, h2⟩
        have e0 : mixF o w done [] y = if y ∈ done then w y else o y := if_neg (by simp)
        rw [e0]
        by_cases hyr : y = r
        · subst hyr
          rw [if_neg hrd]
          have e1 : mixF o w done [y] y = setZ (o y ++ w y) := if_pos (by simp)
          rw [e1, mem_setZ, List.mem_append] at h1
          rcases h1 with q | q
          · exact q
          · exact absurd ⟨h, h2, .one q⟩ hm
        · have e1 : mixF o w done [r] y = if y ∈ done then w y else o y := if_neg (by simpa using hyr)
          rwa [e1] at h1⟩
      rw [a1] at this
      cases this
/-- there is such a router -/
theorem one_ex {n : Nat} {o w : Int → List Int} {done : List Int} (hw : ∀ r ∈ R n, ∀ h ∈ w r, h ∈ R n) (a2 : cyc n w = false) (hl : lft n o w done ≠ []) : ∃ r ∈ lft n o w done, ∀ y, Rc w r y → y ∉ lft n o w done := by
  refine Classical.byContradiction fun z => ?_
  have all : ∀ r ∈ lft n o w done, ∃ y, Rc w r y ∧ y ∈ lft n o w done := fun r hr => Classical.byContradiction fun q => z ⟨r, hr, fun y hy hm => q ⟨y, hy, hm⟩⟩
  haveI := Classical.propDecidable
  have : cyc n w = true := by
    obtain ⟨r, hr⟩ := List.exists_mem_of_ne_nil _ hl
    refine cyc_iff.mpr ⟨(R n).filter fun x => decide (∃ y, Rc w x y ∧ y ∈ lft n o w done), fun e => ?_, fun x hx => (List.mem_filter.mp hx).1, fun x hx => ?_⟩
    · have : r ∈ (R n).filter fun x => decide (∃ y, Rc w x y ∧ y ∈ lft n o w done) := List.mem_filter.mpr ⟨(mem_lft.mp hr).1, decide_eq_true (all r hr)⟩
      rw [e] at this
      cases this
    · obtain ⟨h1, h2⟩ := List.mem_filter.mp hx
      obtain ⟨y, h3, h4⟩ := of_decide_eq_true h2
      cases h3 with
      | one q => exact ⟨y, q, List.mem_filter.mpr ⟨hw x h1 y q, decide_eq_true (all y h4)⟩⟩
      | @more _ h _ q q' => exact ⟨h, q, List.mem_filter.mpr ⟨hw x h1 h q, decide_eq_true ⟨y, q', h4⟩⟩⟩
  rw [a2] at this
  cases this
/-- whichever of a safe round have changed -/
theorem sub_safe {n : Nat} {o w : Int → List Int} {done now some : List Int} (h : cyc n (mixF o w done now) = false) (hs : ∀ r ∈ some, r ∈ now) : cyc n (mixF o w (done ++ some) []) = false := by
  refine cyc_mono (fun r hr x hx => ?_) h
  have e0 : mixF o w (done ++ some) [] r = if r ∈ done ++ some then w r else o r := if_neg (by simp)
  rw [e0] at hx
  unfold mixF
  by_cases hn : r ∈ now
  · rw [if_pos hn, mem_setZ, List.mem_append]
    split at hx
    · exact .inr hx
    · exact .inl hx
  · have hsm : r ∉ some := fun z => hn (hs r z)
    rw [if_neg hn]
    by_cases hd : r ∈ done
    · rw [if_pos hd]
      rwa [if_pos (List.mem_append_left _ hd)] at hx
    · rw [if_neg hd]
      rwa [if_neg (by rw [List.mem_append]; exact fun z => z.elim hd hsm)] at hx
/-- only who is among the done, the ones now, matters -/
theorem mix_ext {o w : Int → List Int} {d d' m m' : List Int} (h : ∀ r, r ∈ d ↔ r ∈ d') (k : ∀ r, r ∈ m ↔ r ∈ m') : mixF o w d m = mixF o w d' m' := by
  funext r
  unfold mixF
  simp only [h r, k r]
end K09
set_option Elab.async false
set_option linter.all false
set_option maxRecDepth 100000
namespace K09
open PySem DP
theorem nodup_len {l : List Int} : ∀ (ks m : List Int), ks.Nodup → (∀ a ∈ ks, a ∈ m) → ks.length ≤ m.length
  | [], _, _, _ => Nat.zero_le _
  | a :: t, m, nd, h => by
    rw [List.nodup_cons] at nd
    have ha := h a List.mem_cons_self
    have := nodup_len (l := l) t (m.erase a) nd.2 fun b hb => by
      have hne : b ≠ a := fun z => nd.1 (z ▸ hb)
      exact (List.mem_erase_of_ne hne).mpr (h b (List.mem_cons_of_mem _ hb))
    have h2 := List.length_erase_of_mem ha
    have h3 : 0 < m.length := List.length_pos_of_mem ha
    rw [List.length_cons]
    omega
def entB (k : Int) : D × D := (.int k, .bool true)
theorem any_entB (k : Int) (L : List Int) : (L.map entB).any (kIs (.int k)) = decide (k ∈ L) := by
  have e : ∀ r, kIs (.int k) (entB r) = decide (r = k) := fun r => by unfold kIs entB; simp [keyD]
  rw [List.any_map, Bool.eq_iff_iff]
  simp only [List.any_eq_true, Function.comp, e, decide_eq_true_eq]
  exact ⟨fun ⟨x, h, e⟩ => e ▸ h, fun h => ⟨k, h, rfl⟩⟩
theorem put_entB {L : List Int} {k : Int} (h : k ∉ L) : dPut (L.map entB) (.int k) (.bool true) = (L ++ [k]).map entB := by
  unfold dPut
  rw [any_entB, decide_eq_false h, if_neg Bool.false_ne_true, List.map_append]
  rfl
theorem nin_entB (k : Int) (L : List Int) : ninD2 (.int k) (.dict (L.map entB)) = some (.bool (decide (k ∉ L))) := by
  show (if keyOk (.int k) = true then some (PyData.bool (!((L.map entB).any (kIs (.int k))))) else none) = _
  rw [if_pos (show keyOk (.int k) = true from rfl), any_entB]
  by_cases h : k ∈ L <;> simp [h]
theorem sorted_entB (L : List Int) : sortedD2 [.dict (L.map entB)] = some (iL (srtZ L)) := by
  have e : (L.map entB).map (·.1) = L.map PyData.int := by rw [List.map_map]; rfl
  show (if srtOk ((L.map entB).map (·.1)) = true then some (PyData.list (sortL ((L.map entB).map (·.1)))) else none) = _
  rw [e, if_pos (srtOk_ints _), sortL_ints]
  rfl
theorem pop_ok (ws : List Int) (x : Int) : opPop ((ws ++ [x]).map .int) [] = some (.int x, ws.map .int) := by
  unfold opPop
  simp
structure RInv (n : Nat) (w : Int → List Int) (r : Int) (ks ws : List Int) : Prop where
  nd : ks.Nodup
  k1 : ∀ y ∈ ks, Rc w r y
  k2 : ∀ y ∈ ws, Rc w r y
  c1 : ∀ x ∈ ks, ∀ h ∈ w x, h ∈ ks ∨ h ∈ ws
  c2 : ∀ h ∈ w r, h ∈ ks ∨ h ∈ ws
theorem reach_loop {n : Nat} {w : Int → List Int} (hw : ∀ r ∈ R n, ∀ h ∈ w r, h ∈ R n) (hf : Few n w) (hn : n ≤ 100) {r : Int} (hr : r ∈ R n) : ∀ (k : Nat) (ks ws : List Int) (a : Sl), RInv n w r ks ws → ws.length + 21 * (n - ks.length) < k → k ≤ 1000 →
    ∃ (ks' : List Int) (a' : Sl), whL (tst (x2 gtD (xLenB 3) (xConst (.int 0)))) Y1_reached_by k [.fz (nD n w), .fz (.int r), .ow none (.dict (ks.map entB)), .ow none (iL ws), a] = .ok (.nx, [.fz (nD n w), .fz (.int r), .ow none (.dict (ks'.map entB)), .ow none (iL []), a']) ∧ ks'.Nodup ∧ ∀ y, y ∈ ks' ↔ Rc w r y
  | 0, _, _, _, _, h, _ => absurd h (Nat.not_lt_zero _)
  | k + 1, ks, ws, a, I, h, hk => by
    have hks : ks.length ≤ n := by
      have := nodup_len (l := ks) ks (R n) I.nd fun y hy => (I.k1 y hy).in_R hw hr
      rwa [R_len] at this
    have hlenB : ∀ e : Ev, e[3]? = some (.ow none (iL ws)) → xLenB 3 e = .ok (.int ws.length, e) := fun e he => by
      rw [xLenB_ap (c := iL ws) (by unfold slotC; rw [he]), iL_len]
      rfl
    rcases List.eq_nil_or_concat ws with rfl | ⟨ws', x, rfl⟩
    · refine ⟨ks, a, ?_, I.nd, fun y => ⟨I.k1 y, fun hy => ?_⟩⟩
      · refine wh_no ?_
        have q := hlenB [.fz (nD n w), .fz (.int r), .ow none (.dict (ks.map entB)), .ow none (iL []), a] rfl
        simp only [tst_ap, x2_ap, q, Out.bind_ok, xConst_ap]
        rfl
      · have all : ∀ {x y : Int}, Rc w x y → (∀ h ∈ w x, h ∈ ks) → y ∈ ks := by
          intro x y hc
          induction hc with
          | one q => exact fun hx => hx _ q
          | more q _ ih => exact fun hx => ih fun z hz => (I.c1 _ (hx _ q) z hz).resolve_right fun z => nomatch z
        exact all hy fun h hh => (I.c2 h hh).resolve_right fun z => nomatch z
    · rw [List.concat_eq_append] at *
      have hxR : x ∈ R n := (I.k2 x (by simp)).in_R hw hr
      have hwl : (ws' ++ [x]).length = ws'.length + 1 := by simp
      have t0 : tst (x2 gtD (xLenB 3) (xConst (.int 0))) [.fz (nD n w), .fz (.int r), .ow none (.dict (ks.map entB)), .ow none (iL (ws' ++ [x])), a] = .ok (true, [.fz (nD n w), .fz (.int r), .ow none (.dict (ks.map entB)), .ow none (iL (ws' ++ [x])), a]) := by
        have q := hlenB [.fz (nD n w), .fz (.int r), .ow none (.dict (ks.map entB)), .ow none (iL (ws' ++ [x])), a] rfl
        simp only [tst_ap, x2_ap, q, Out.bind_ok, xConst_ap, gt_int, liftO_some, asB_bool]
        rw [decide_eq_true (by rw [hwl]; omega)]
      have s1 : sSet 4 (xMutL 3 opPop aNil) [.fz (nD n w), .fz (.int r), .ow none (.dict (ks.map entB)), .ow none (iL (ws' ++ [x])), a] = .ok (.nx, [.fz (nD n w), .fz (.int r), .ow none (.dict (ks.map entB)), .ow none (iL ws'), .fz (.int x)]) := by
        have p := pop_ok ws' x
        unfold iL
        generalize (ws' ++ [x]).map PyData.int = W at *
        generalize nD n w = T
        simp [p]
      have e1 := ix_nD (f := w) hxR
      have h20 := hf x hxR
      by_cases hx : x ∈ ks
      · have s2 : Y1_reached_by [.fz (nD n w), .fz (.int r), .ow none (.dict (ks.map entB)), .ow none (iL (ws' ++ [x])), a] = .ok (.nx, [.fz (nD n w), .fz (.int r), .ow none (.dict (ks.map entB)), .ow none (iL ws'), .fz (.int x)]) := by
          unfold Y1_reached_by
          rw [seq_nx s1]
          refine if_no (e1 := [.fz (nD n w), .fz (.int r), .ow none (.dict (ks.map entB)), .ow none (iL ws'), .fz (.int x)]) ?_ |>.trans rfl
          have q := nin_entB x ks
          rw [decide_eq_false (fun z => z hx)] at q
          generalize ks.map entB = KV at *
          generalize nD n w = T
          simp [slotC, q]
        rw [wh_yes t0 s2]
        refine reach_loop hw hf hn hr k ks ws' _ ⟨I.nd, I.k1, fun y hy => I.k2 y (List.mem_append_left _ hy), fun z hz h hh => ?_, fun h hh => ?_⟩ (by rw [hwl] at h; omega) (by omega)
        · rcases I.c1 z hz h hh with q | q
          · exact .inl q
          · rcases List.mem_append.mp q with q | q
            · exact .inr q
            · rw [List.mem_singleton.mp q]; exact .inl hx
        · rcases I.c2 h hh with q | q
          · exact .inl q
          · rcases List.mem_append.mp q with q | q
            · exact .inr q
            · rw [List.mem_singleton.mp q]; exact .inl hx
      · have nd' : (ks ++ [x]).Nodup := by
          rw [List.nodup_append]
          exact ⟨I.nd, by simp, fun a ha b hb => by rw [List.mem_singleton.mp hb]; exact fun z => hx (z ▸ ha)⟩
        have hks' : ks.length + 1 ≤ n := by
          have := nodup_len (l := ks) (ks ++ [x]) (R n) nd' fun y hy => by
            rcases List.mem_append.mp hy with q | q
            · exact (I.k1 y q).in_R hw hr
            · rw [List.mem_singleton.mp q]; exact hxR
          rw [R_len] at this
          simpa using this
        have s2 : Y1_reached_by [.fz (nD n w), .fz (.int r), .ow none (.dict (ks.map entB)), .ow none (iL (ws' ++ [x])), a] = .ok (.nx, [.fz (nD n w), .fz (.int r), .ow none (.dict ((ks ++ [x]).map entB)), .ow none (iL (ws' ++ w x)), .fz (.int x)]) := by
          unfold Y1_reached_by
          rw [seq_nx s1]
          rw [if_yes (e1 := [.fz (nD n w), .fz (.int r), .ow none (.dict (ks.map entB)), .ow none (iL ws'), .fz (.int x)])]
          · have s3 : sSetK 2 (xConst (.bool true)) (xVar 4) [.fz (nD n w), .fz (.int r), .ow none (.dict (ks.map entB)), .ow none (iL ws'), .fz (.int x)] = .ok (.nx, [.fz (nD n w), .fz (.int r), .ow none (.dict ((ks ++ [x]).map entB)), .ow none (iL ws'), .fz (.int x)]) := by
              rw [← put_entB hx]
              exact setK_ok (v := .bool true) (kk := .int x) (e1 := [.fz (nD n w), .fz (.int r), .ow none (.dict (ks.map entB)), .ow none (iL ws'), .fz (.int x)]) (e2 := [.fz (nD n w), .fz (.int r), .ow none (.dict (ks.map entB)), .ow none (iL ws'), .fz (.int x)]) rfl rfl (by simp) rfl rfl (by rw [List.length_map, sizeLine_eq]; omega)
            rw [seq_nx s3]
            have ext : opExt (ws'.map .int) [iL (w x)] = some (.none, (ws' ++ w x).map .int) := by
              unfold opExt iL
              simp only
              rw [if_pos (by rw [hwl] at h; rw [List.length_map, List.length_map, sizeLine_eq]; omega), List.map_append]
            unfold iL at *
            generalize (ks ++ [x]).map entB = KV at *
            generalize nD n w = T at *
            generalize (ws' ++ w x).map PyData.int = V2 at *
            simp [e1, ext]
          · have q := nin_entB x ks
            rw [decide_eq_true hx] at q
            generalize ks.map entB = KV at *
            generalize nD n w = T
            simp [slotC, q]
        rw [wh_yes t0 s2]
        refine reach_loop hw hf hn hr k (ks ++ [x]) (ws' ++ w x) _ ⟨nd', fun y hy => ?_, fun y hy => ?_, fun z hz h hh => ?_, fun h hh => ?_⟩ (by
          rw [hwl] at h
          simp only [List.length_append, List.length_cons, List.length_nil]
          omega) (by omega)
        · rcases List.mem_append.mp hy with q | q
          · exact I.k1 y q
          · rw [List.mem_singleton.mp q]; exact I.k2 x (by simp)
        · rcases List.mem_append.mp hy with q | q
          · exact I.k2 y (List.mem_append_left _ q)
          · exact (I.k2 x (by simp)).snoc q
        · rcases List.mem_append.mp hz with q | q
          · rcases I.c1 z q h hh with q | q
            · exact .inl (List.mem_append_left _ q)
            · rcases List.mem_append.mp q with q | q
              · exact .inr (List.mem_append_left _ q)
              · exact .inl (List.mem_append_right _ q)
          · rw [List.mem_singleton.mp q] at hh
            exact .inr (List.mem_append_right _ hh)
        · rcases I.c2 h hh with q | q
          · exact .inl (List.mem_append_left _ q)
          · rcases List.mem_append.mp q with q | q
            · exact .inr (List.mem_append_left _ q)
            · exact .inl (List.mem_append_right _ q)
theorem reached_ok {n : Nat} {w : Int → List Int} (hw : ∀ r ∈ R n, ∀ h ∈ w r, h ∈ R n) (hf : Few n w) (hn : n ≤ 8) {r : Int} (hr : r ∈ R n) : ∃ ys, F_reached_by [nD n w, .int r] = .ok (iL ys) ∧ (∀ y, y ∈ ys ↔ Rc w r y) ∧ ys.length ≤ n := by
  have h20 := hf r hr
  obtain ⟨ks, a, h1, nd, h2⟩ := reach_loop hw hf (by omega) hr 200 [] (w r) .no ⟨List.nodup_nil, (fun _ h => nomatch h), fun y hy => .one hy, (fun _ h => nomatch h), fun h hh => .inr hh⟩ (by simp; omega) (by omega)
  have hl : ks.length ≤ n := by
    have := nodup_len (l := ks) ks (R n) nd fun y hy => ((h2 y).mp hy).in_R hw hr
    rwa [R_len] at this
  refine ⟨srtZ ks, ?_, fun y => by rw [mem_srtZ]; exact h2 y, by rw [(srtZ_perm ks).length_eq]; exact hl⟩
  refine runB_rt (e := [.fz (nD n w), .fz (.int r), .fz (.dict (ks.map entB)), .ow none (iL []), a]) ?_
  show B_reached_by [.fz (nD n w), .fz (.int r), .no, .no, .no] = _
  have s1 : sOwn 2 (xConst (.dict [])) [.fz (nD n w), .fz (.int r), .no, .no, .no] = .ok (.nx, [.fz (nD n w), .fz (.int r), .ow none (.dict []), .no, .no]) := by simp
  have s2 : sOwn 3 (xn listD2 (aCons (x2 ixD (xVar 0) (xVar 1)) (aNil))) [.fz (nD n w), .fz (.int r), .ow none (.dict []), .no, .no] = .ok (.nx, [.fz (nD n w), .fz (.int r), .ow none (.dict []), .ow none (iL (w r)), .no]) := by
    have e1 := ix_nD (f := w) hr
    generalize nD n w = T at *
    simp [e1]
  unfold B_reached_by
  rw [seq_nx s1, seq_nx s2]
  have h1' : whL (tst (x2 gtD (xLenB 3) (xConst (.int 0)))) Y1_reached_by 200 [.fz (nD n w), .fz (.int r), .ow none (.dict []), .ow none (iL (w r)), .no] = .ok (.nx, [.fz (nD n w), .fz (.int r), .ow none (.dict (ks.map entB)), .ow none (iL []), a]) := h1
  rw [seq_nx h1']
  have e := sorted_entB ks
  generalize ks.map entB = KV at *
  generalize nD n w = T
  simp [e]
end K09
set_option Elab.async false
set_option linter.all false
set_option maxRecDepth 100000
namespace K09
open PySem DP
/-- two nets that may be changed one into the other -/
structure NW (n : Nat) (o w : Int → List Int) : Prop where
  n6 : n ≤ 6
  fo : Few n o
  fw : Few n w
  ck : chk n o n w = none
section
variable {n : Nat} {o w : Int → List Int}
theorem NW.facts (N : NW n o w) : isH n o = true ∧ isH n w = true ∧ cyc n o = false ∧ cyc n w = false := by
  have h := N.ck
  unfold chk at h
  split at h
  · cases h
  · rename_i h1
    split at h
    · cases h
    · rename_i h2
      split at h
      · cases h
      · rename_i h3
        split at h
        · cases h
        · rename_i h4
          refine ⟨by simpa using h1, ?_, by simpa using h3, by simpa using h4⟩
          cases e : isH n w with
          | true => rfl
          | false => exact absurd (.inl e) h2
theorem isH_in {f : Int → List Int} (h : isH n f = true) : ∀ r ∈ R n, ∀ x ∈ f r, x ∈ R n := by
  intro r hr x hx
  simp only [isH, Bool.and_eq_true, List.all_eq_true, okR, decide_eq_true_eq] at h
  exact (h.2.2 r hr).2.2 x hx
theorem NW.wR (N : NW n o w) : ∀ r ∈ R n, ∀ h ∈ w r, h ∈ R n := isH_in N.facts.2.1
theorem NW.check (N : NW n o w) : F_check_change [nD n o, nD n w] = .ok .none := by
  have := check_ok (by have := N.n6; omega) (by have := N.n6; omega) N.fo N.fw
  rw [N.ck] at this
  exact this
theorem NW.n100 (N : NW n o w) : n ≤ 100 := by have := N.n6; omega
theorem NW.chg6 (N : NW n o w) : (chg n o w).length ≤ 6 := Nat.le_trans (chg_len n o w) N.n6
end
/-! ### rounds -/
def arR (n : Nat) (o w : Int → List Int) : List Int → List (List Int) → Bool
  | done, [] => decide (srtZ done = chg n o w)
  | done, now :: rest => if (decide (now = []) || (!decide (now.Pairwise (· < ·)) || cyc n (mixF o w done now))) = true then false else arR n o w (done ++ now) rest
theorem ar_body {n : Nat} {o w : Int → List Int} (N : NW n o w) {done now : List Int} (Rd : D) (h1 : now.length ≤ 20) (h2 : done.length ≤ 5000) :
    Y1_are_rounds [.fz (nD n o), .fz (nD n w), .fz Rd, .fz (iL done), .fz (iL now)] = if (decide (now = []) || (!decide (now.Pairwise (· < ·)) || cyc n (mixF o w done now))) = true then .ok (.rt (.bool false), [.fz (nD n o), .fz (nD n w), .fz Rd, .fz (iL done), .fz (iL now)]) else .ok (.nx, [.fz (nD n o), .fz (nD n w), .fz Rd, .fz (iL (done ++ now)), .fz (iL now)]) := by
  have s := rsafe_ok N.fo N.fw N.n100 done now
  have h5 : sortSetID (iL now) = some (iL (setZ now)) := sortSetI_ok (by omega)
  have h6 : decide (now ≠ setZ now) = !decide (now.Pairwise (· < ·)) := by
    rw [Bool.eq_iff_iff]
    simp only [decide_eq_true_eq, ne_eq, Bool.not_eq_true', decide_eq_false_iff_not, rising_eq]
  have h7 : addD (iL done) (iL now) = some (iL (done ++ now)) := add_iL _ _ (by omega)
  have h8 : decide ((now.length : Int) = 0) = decide (now = []) := by
    rw [Bool.eq_iff_iff]
    simp only [decide_eq_true_eq]
    constructor
    · intro h; exact List.eq_nil_of_length_eq_zero (by omega)
    · rintro rfl; rfl
  generalize nD n o = O at *
  generalize nD n w = V at *
  have g1 : tst (x2 eqD2 (xn lenD (aCons (xVar 4) (aNil))) (xConst (.int 0))) [.fz O, .fz V, .fz Rd, .fz (iL done), .fz (iL now)] = .ok (decide (now = []), [.fz O, .fz V, .fz Rd, .fz (iL done), .fz (iL now)]) := by
    rw [← h8]
    simp
  have g2 : tst (x2 neD2 (xn listD2 (aCons (xVar 4) (aNil))) (xSortSetI (xVar 4))) [.fz O, .fz V, .fz Rd, .fz (iL done), .fz (iL now)] = .ok (!decide (now.Pairwise (· < ·)), [.fz O, .fz V, .fz Rd, .fz (iL done), .fz (iL now)]) := by
    rw [← h6]
    simp [h5]
  have g3 : tst (xCall 4 F_is_round_safe (aCons (xVar 0) (aCons (xVar 1) (aCons (xVar 3) (aCons (xVar 4) (aNil)))))) [.fz O, .fz V, .fz Rd, .fz (iL done), .fz (iL now)] = .ok (!cyc n (mixF o w done now), [.fz O, .fz V, .fz Rd, .fz (iL done), .fz (iL now)]) := by
    simp [s]
  have t := tor_ok g1 (tor_ok g2 (tnot_ok g3))
  rw [Bool.not_not] at t
  unfold Y1_are_rounds
  cases hb : (decide (now = []) || (!decide (now.Pairwise (· < ·)) || cyc n (mixF o w done now))) with
  | true =>
    rw [hb] at t
    rw [if_pos rfl]
    exact seq_rt (by rw [if_yes t]; rfl)
  | false =>
    rw [hb] at t
    rw [if_neg Bool.false_ne_true]
    rw [seq_nx (f := sIf _ _ _) (e1 := [.fz O, .fz V, .fz Rd, .fz (iL done), .fz (iL now)]) (by rw [if_no t]; rfl)]
    simp [h7]
theorem ar_loop {n : Nat} {o w : Int → List Int} (N : NW n o w) (Rd : D) : ∀ (rows : List (List Int)) (done : List Int) (a : Sl), (∀ now ∈ rows, now.length ≤ 20) → done.length + rows.length * 20 ≤ 5000 →
    (∃ e, forL (gN 4) Y1_are_rounds (rows.map iL) [.fz (nD n o), .fz (nD n w), .fz Rd, .fz (iL done), a] = .ok (.rt (.bool false), e) ∧ arR n o w done rows = false) ∨
    ∃ d' a', forL (gN 4) Y1_are_rounds (rows.map iL) [.fz (nD n o), .fz (nD n w), .fz Rd, .fz (iL done), a] = .ok (.nx, [.fz (nD n o), .fz (nD n w), .fz Rd, .fz (iL d'), a']) ∧ arR n o w done rows = decide (srtZ d' = chg n o w)
  | [], done, a, _, _ => .inr ⟨done, a, rfl, rfl⟩
  | now :: rows, done, a, h, hz => by
    have hnow := h now List.mem_cons_self
    have hb := ar_body N Rd hnow (show done.length ≤ 5000 by omega)
    rw [List.length_cons] at hz
    unfold arR
    rw [List.map_cons]
    unfold forL
    simp only [gN_ap]
    have e0 : ([.fz (nD n o), .fz (nD n w), .fz Rd, .fz (iL done), a] : Ev).set 4 (.fz (iL now)) = [.fz (nD n o), .fz (nD n w), .fz Rd, .fz (iL done), .fz (iL now)] := rfl
    rw [e0, hb]
    by_cases c : (decide (now = []) || (!decide (now.Pairwise (· < ·)) || cyc n (mixF o w done now))) = true
    · rw [if_pos c, if_pos c]
      exact .inl ⟨_, rfl, rfl⟩
    · rw [if_neg c, if_neg c]
      simp only [Out.bind_ok]
      exact ar_loop N Rd rows (done ++ now) (.fz (iL now)) (fun x hx => h x (List.mem_cons_of_mem _ hx)) (by rw [List.length_append]; omega)
theorem arounds_ok {n : Nat} {o w : Int → List Int} (N : NW n o w) {rows : List (List Int)} (h : ∀ now ∈ rows, now.length ≤ 20) (hz : rows.length ≤ 200) : F_are_rounds [nD n o, nD n w, sD rows] = .ok (.bool (arR n o w [] rows)) := by
  have c := N.check
  have g := changing_ok (o := o) (w := w) N.n100
  have s0 : sDrop (xCall 2 F_check_change (aCons (xVar 0) (aCons (xVar 1) (aNil)))) [.fz (nD n o), .fz (nD n w), .fz (sD rows), .no, .no] = .ok (.nx, [.fz (nD n o), .fz (nD n w), .fz (sD rows), .no, .no]) := by
    generalize nD n o = O at *
    generalize nD n w = V at *
    simp [c]
  have s1 : sSet 3 (xLst (aNil)) [.fz (nD n o), .fz (nD n w), .fz (sD rows), .no, .no] = .ok (.nx, [.fz (nD n o), .fz (nD n w), .fz (sD rows), .fz (iL []), .no]) := by
    simp [zero0, iL]
  have e : iIt (xVar 2) [.fz (nD n o), .fz (nD n w), .fz (sD rows), .fz (iL []), .no] = .ok (rows.map iL, [.fz (nD n o), .fz (nD n w), .fz (sD rows), .fz (iL []), .no]) := by
    simp [sD]
  rcases ar_loop N (sD rows) rows [] .no h (by simp; omega) with ⟨e2, h1, h2⟩ | ⟨d', a', h1, h2⟩
  · rw [h2]
    refine runB_rt (e := e2) ?_
    show B_are_rounds [.fz (nD n o), .fz (nD n w), .fz (sD rows), .no, .no] = _
    unfold B_are_rounds
    rw [seq_nx s0, seq_nx s1]
    refine seq_rt ?_
    simp only [sFor_ap, e, Out.bind_ok]
    exact h1
  · rw [h2]
    refine runB_rt (e := [.fz (nD n o), .fz (nD n w), .fz (sD rows), .fz (iL d'), a']) ?_
    show B_are_rounds [.fz (nD n o), .fz (nD n w), .fz (sD rows), .no, .no] = _
    unfold B_are_rounds
    rw [seq_nx s0, seq_nx s1]
    rw [seq_nx (e1 := [.fz (nD n o), .fz (nD n w), .fz (sD rows), .fz (iL d'), a']) (by simp only [sFor_ap, e, Out.bind_ok]; exact h1)]
    generalize nD n o = O at *
    generalize nD n w = V at *
    generalize sD rows = S
    simp [g]
/-- rounds one behind the other, each of them safe -/
def GR (n : Nat) (o w : Int → List Int) : List Int → List (List Int) → Prop
  | _, [] => True
  | done, now :: rest => now ≠ [] ∧ now.Pairwise (· < ·) ∧ cyc n (mixF o w done now) = false ∧ GR n o w (done ++ now) rest
theorem GR.snoc {n : Nat} {o w : Int → List Int} {now : List Int} : ∀ {rows : List (List Int)} {done : List Int}, GR n o w done rows → now ≠ [] → now.Pairwise (· < ·) → cyc n (mixF o w (done ++ rows.flatten) now) = false → GR n o w done (rows ++ [now])
  | [], done, _, h1, h2, h3 => ⟨h1, h2, by simpa using h3, trivial⟩
  | x :: rows, done, h, h1, h2, h3 => ⟨h.1, h.2.1, h.2.2.1, h.2.2.2.snoc h1 h2 (by rw [List.append_assoc]; simpa using h3)⟩
theorem GR.ar {n : Nat} {o w : Int → List Int} : ∀ {rows : List (List Int)} {done : List Int}, GR n o w done rows → arR n o w done rows = decide (srtZ (done ++ rows.flatten) = chg n o w)
  | [], done, _ => by simp [arR]
  | x :: rows, done, h => by
    unfold arR
    have c : (decide (x = []) || (!decide (x.Pairwise (· < ·)) || cyc n (mixF o w done x))) = false := by
      simp [h.1, h.2.1, h.2.2.1]
    rw [c, if_neg Bool.false_ne_true, h.2.2.2.ar, List.append_assoc, List.flatten_cons]
theorem GR.yes {n : Nat} {o w : Int → List Int} {rows : List (List Int)} (h : GR n o w [] rows) (p : rows.flatten.Perm (chg n o w)) : arR n o w [] rows = true := by
  rw [h.ar, List.nil_append, decide_eq_true_eq]
  exact srtZ_eq ((R_pw n).filter _) p.symm
/-- rounds have all that change, each once -/
theorem ar_len {n : Nat} {o w : Int → List Int} : ∀ {rows : List (List Int)} {done : List Int}, arR n o w done rows = true → done.length + rows.flatten.length = (chg n o w).length
  | [], done, h => by
    unfold arR at h
    have := congrArg List.length (of_decide_eq_true h)
    rw [(srtZ_perm done).length_eq] at this
    simpa using this
  | x :: rows, done, h => by
    unfold arR at h
    split at h
    · cases h
    · have := ar_len h
      rw [List.length_append] at this
      rw [List.flatten_cons, List.length_append]
      omega
end K09
set_option Elab.async false
set_option linter.all false
set_option maxRecDepth 100000
namespace K09
open PySem DP
theorem lft_snoc {n : Nat} {o w : Int → List Int} (done : List Int) (r : Int) : (lft n o w done).filter (fun x => decide (x ≠ r)) = lft n o w (done ++ [r]) := by
  unfold lft
  rw [List.filter_filter]
  refine List.filter_congr fun x _ => ?_
  rw [Bool.eq_iff_iff]
  simp only [Bool.and_eq_true, decide_eq_true_eq, List.mem_append, List.mem_singleton, not_or, ne_eq]
  exact And.comm
theorem lft_len {n : Nat} {o w : Int → List Int} (N : NW n o w) (done : List Int) : (lft n o w done).length ≤ 6 := Nat.le_trans (List.length_filter_le _ _) N.chg6
theorem lft_R {n : Nat} {o w : Int → List Int} {done : List Int} : ∀ r ∈ lft n o w done, r ∈ R n := fun r hr => (mem_lft.mp hr).1
def rdy (rl : Int → List Int) (left : List Int) : List Int := left.filter fun r => !(rl r).any fun h => decide (h ∈ left)
theorem ready_ok {n : Nat} {o w : Int → List Int} {rl : Int → List Int} (h1 : ∀ r ∈ R n, F_reached_by [nD n w, .int r] = .ok (iL (rl r))) (h2 : ∀ r ∈ R n, (rl r).length ≤ 100) {left : List Int} (hl : ∀ r ∈ left, r ∈ R n) (hz : left.length ≤ 100) (F a : Sl) :
    sSet 4 (xComp (iIt (xVar 2)) (gN 5) (tNotF (tst (xn anyD (aCons (xComp (iIt (xCall 2 F_reached_by (aCons (xVar 1) (aCons (xVar 5) (aNil))))) (gN 6) (tTrue) (E1_one_by_one) [6]) (aNil))))) (E2_one_by_one) [5]) [.fz (nD n o), .fz (nD n w), .fz (iL left), F, a, .no, .no] =
      .ok (.nx, [.fz (nD n o), .fz (nD n w), .fz (iL left), F, .fz (iL (rdy rl left)), .no, .no]) := by
  generalize nD n o = O
  generalize nD n w = V at *
  have q := cmp_map (F := PyData.int) (g := gN 5) (ts := tNotF (tst (xn anyD (aCons (xComp (iIt (xCall 2 F_reached_by (aCons (xVar 1) (aCons (xVar 5) (aNil))))) (gN 6) (tTrue) (E1_one_by_one) [6]) (aNil))))) (el := E2_one_by_one) (vs := [5]) (env := [.fz O, .fz V, .fz (iL left), F, a, .no, .no])
    (b := fun r => !(rl r).any fun h => decide (h ∈ left)) (f := fun r => .int r) left fun r hr => ⟨[.fz O, .fz V, .fz (iL left), F, a, .fz (.int r), .no], rfl, ?_, fun _ => by simp [E2_one_by_one], rfl⟩
  · have g1 : iIt (xVar 2) [.fz O, .fz V, .fz (iL left), F, a, .no, .no] = .ok (left.map .int, [.fz O, .fz V, .fz (iL left), F, a, .no, .no]) := by simp
    have g2 := comp_ok (vs := [5]) g1 q (by have : (rdy rl left).length ≤ left.length := List.length_filter_le _ _; rw [List.length_map, sizeLine_eq]; show (rdy rl left).length ≤ _; omega)
    simp only [sSet_ap, g2, Out.bind_ok]
    rfl
  · have e1 := h1 r (hl r hr)
    have q1 := cmp_mapT (F := PyData.int) (g := gN 6) (el := E1_one_by_one) (vs := [6]) (env := [.fz O, .fz V, .fz (iL left), F, a, .fz (.int r), .no]) (f := fun h => PyData.bool (decide (h ∈ left))) (rl r) fun h _ => ⟨[.fz O, .fz V, .fz (iL left), F, a, .fz (.int r), .fz (.int h)], rfl, by simp [E1_one_by_one], rfl⟩
    have g1 : iIt (xCall 2 F_reached_by (aCons (xVar 1) (aCons (xVar 5) (aNil)))) [.fz O, .fz V, .fz (iL left), F, a, .fz (.int r), .no] = .ok ((rl r).map .int, [.fz O, .fz V, .fz (iL left), F, a, .fz (.int r), .no]) := by
      simp [e1]
    have g2 := comp_ok (vs := [6]) g1 q1 (by have := h2 r (hl r hr); rw [List.length_map, sizeLine_eq]; omega)
    have g3 : xn anyD (aCons (xComp (iIt (xCall 2 F_reached_by (aCons (xVar 1) (aCons (xVar 5) (aNil))))) (gN 6) (tTrue) (E1_one_by_one) [6]) (aNil)) [.fz O, .fz V, .fz (iL left), F, a, .fz (.int r), .no] = .ok (.bool ((rl r).any fun h => decide (h ∈ left)), [.fz O, .fz V, .fz (iL left), F, a, .fz (.int r), .no]) := by
      have e : anyD [.list ((rl r).map fun h => PyData.bool (decide (h ∈ left)))] = some (.bool ((rl r).any fun h => decide (h ∈ left))) := by
        have := any_bools ((rl r).map fun h => decide (h ∈ left))
        rw [List.map_map, List.any_map] at this
        exact this
      simp only [xn_ap, aCons_ap, aNil_ap, g2, Out.bind_ok, e, liftO_some]
      rfl
    exact tnot_ok (tst_ok g3)
theorem flat1 : ∀ l : List Int, (l.map fun r => [r]).flatten = l
  | [] => rfl
  | x :: t => by rw [List.map_cons, List.flatten_cons, flat1 t]; rfl
theorem obo_loop {n : Nat} {o w : Int → List Int} (N : NW n o w) {rl : Int → List Int} (h1 : ∀ r ∈ R n, F_reached_by [nD n w, .int r] = .ok (iL (rl r))) (h2 : ∀ r ∈ R n, (rl r).length ≤ 100) (h3 : ∀ r ∈ R n, ∀ y, y ∈ rl r ↔ Rc w r y) :
    ∀ (k : Nat) (done : List Int) (a : Sl), (lft n o w done).length < k → done.length + (lft n o w done).length ≤ 6 → done.Nodup → (∀ x ∈ done, x ∈ chg n o w) → GR n o w [] (done.map fun r => [r]) → cyc n (mixF o w done []) = false →
      ∃ (ds : List Int) (a' : Sl), whL (tst (x2 gtD (xn lenD (aCons (xVar 2) (aNil))) (xConst (.int 0)))) Y4_one_by_one k [.fz (nD n o), .fz (nD n w), .fz (iL (lft n o w done)), .ow none (sD (done.map fun r => [r])), a, .no, .no] =
        .ok (.nx, [.fz (nD n o), .fz (nD n w), .fz (iL []), .ow none (sD (ds.map fun r => [r])), a', .no, .no]) ∧ GR n o w [] (ds.map fun r => [r]) ∧ ds.Perm (chg n o w)
  | 0, _, _, h, _, _, _, _, _ => absurd h (Nat.not_lt_zero _)
  | k + 1, done, a, h, hz, nd, hc, g, acy => by
    by_cases hl : lft n o w done = []
    · refine ⟨done, a, ?_, g, ?_⟩
      · rw [hl]
        refine wh_no ?_
        simp
      · refine (List.perm_ext_iff_of_nodup nd ((R_pw n).filter _ |>.imp fun h => by omega)).mpr fun x => ⟨hc x, fun hx => ?_⟩
        refine Classical.byContradiction fun z => ?_
        have : x ∈ lft n o w done := mem_lft.mpr ⟨(mem_chg.mp hx).1, (mem_chg.mp hx).2, z⟩
        rw [hl] at this
        cases this
    · obtain ⟨r1, hr1, hr2⟩ := one_ex N.wR N.facts.2.2.2 hl
      have hrd : r1 ∈ rdy rl (lft n o w done) := by
        refine List.mem_filter.mpr ⟨hr1, ?_⟩
        simp only [Bool.not_eq_true', List.any_eq_false, decide_eq_true_eq]
        exact fun y hy => hr2 y ((h3 r1 (lft_R r1 hr1) y).mp hy)
      obtain ⟨r0, rest, er⟩ : ∃ r0 rest, rdy rl (lft n o w done) = r0 :: rest := by
        cases e : rdy rl (lft n o w done) with
        | nil => rw [e] at hrd; cases hrd
        | cons x y => exact ⟨x, y, rfl⟩
      have hr0 : r0 ∈ rdy rl (lft n o w done) := by rw [er]; exact List.mem_cons_self
      obtain ⟨m1, m2⟩ := List.mem_filter.mp hr0
      simp only [Bool.not_eq_true', List.any_eq_false, decide_eq_true_eq] at m2
      have m3 : ∀ y, Rc w r0 y → y ∉ lft n o w done := fun y hy => m2 y ((h3 r0 (lft_R r0 m1) y).mpr hy)
      have safe := one_safe N.wR acy N.facts.2.2.2 m1 m3
      have acy' := sub_safe (some := [r0]) safe fun _ h => h
      have l6 := lft_len N done
      have hlt : (lft n o w (done ++ [r0])).length < (lft n o w done).length := by
        rw [← lft_snoc]
        rcases Nat.lt_or_ge ((lft n o w done).filter fun x => decide (x ≠ r0)).length (lft n o w done).length with q | q
        · exact q
        · have e := filter_len (fun x => decide (x ≠ r0)) q
          have : r0 ∈ (lft n o w done).filter fun x => decide (x ≠ r0) := by rw [e]; exact m1
          have := (List.mem_filter.mp this).2
          simp at this
      obtain ⟨ds, a', i1, i2, i3⟩ := obo_loop N h1 h2 h3 k (done ++ [r0]) (.fz (iL (rdy rl (lft n o w done)))) (by omega) (by rw [List.length_append, List.length_singleton]; omega)
        (by
          rw [List.nodup_append]
          exact ⟨nd, by simp, fun x hx y hy => by rw [List.mem_singleton.mp hy]; exact fun z => (mem_lft.mp m1).2.2 (z ▸ hx)⟩)
        (fun x hx => by
          rcases List.mem_append.mp hx with q | q
          · exact hc x q
          · rw [List.mem_singleton.mp q]; exact mem_chg.mpr ⟨(mem_lft.mp m1).1, (mem_lft.mp m1).2.1⟩)
        (by
          rw [List.map_append]
          refine GR.snoc g (by simp) (by simp) ?_
          rw [List.nil_append]
          rw [flat1]
          exact safe) acy'
      refine ⟨ds, a', ?_, i2, i3⟩
      rw [← i1]
      refine wh_yes (e1 := [.fz (nD n o), .fz (nD n w), .fz (iL (lft n o w done)), .ow none (sD (done.map fun r => [r])), a, .no, .no]) ?_ ?_
      · have this0 := List.length_pos_of_mem m1
        have : (0 : Int) < (lft n o w done).length := by omega
        generalize nD n o = O
        generalize nD n w = V
        generalize sD (done.map fun r => [r]) = S
        simp [this, this0]
      · unfold Y4_one_by_one
        rw [seq_nx (ready_ok h1 h2 lft_R (by omega) (.ow none (sD (done.map fun r => [r]))) a)]
        rw [er, ← lft_snoc]
        have ix0 : ixD (iL (r0 :: rest)) (.int 0) = some (.int r0) := at_int (l := r0 :: rest) (i := 0) rfl
        have s2 : sDrop (xMutL 3 opApp (aCons (xLst (aCons (x2 ixD (xVar 4) (xConst (.int 0))) (aNil))) (aNil))) [.fz (nD n o), .fz (nD n w), .fz (iL (lft n o w done)), .ow none (sD (done.map fun r => [r])), .fz (iL (r0 :: rest)), .no, .no] =
            .ok (.nx, [.fz (nD n o), .fz (nD n w), .fz (iL (lft n o w done)), .ow none (sD ((done ++ [r0]).map fun r => [r])), .fz (iL (r0 :: rest)), .no, .no]) := by
          have ap : opApp ((done.map fun r => [r]).map iL) [.list [.int r0]] = some (.none, (done.map fun r => [r]).map iL ++ [.list [.int r0]]) := app_small (by rw [List.length_map, List.length_map]; omega)
          have e2 : sD ((done ++ [r0]).map fun r => [r]) = .list ((done.map fun r => [r]).map iL ++ [.list [.int r0]]) := by
            unfold sD
            rw [List.map_append, List.map_append]
            rfl
          rw [e2]
          unfold sD
          generalize (done.map fun r => [r]).map iL = S at *
          generalize iL (lft n o w done) = LL
          generalize iL (r0 :: rest) = RR at *
          generalize nD n o = O
          generalize nD n w = V
          simp [ix0, one0, ap]
        rw [seq_nx s2]
        generalize sD ((done ++ [r0]).map fun r => [r]) = S
        generalize nD n o = O
        generalize nD n w = V
        generalize lft n o w done = left at *
        have q := cmp_map (F := PyData.int) (g := gN 5) (ts := tst (x2 neD2 (xVar 5) (x2 ixD (xVar 4) (xConst (.int 0))))) (el := E3_one_by_one) (vs := [5]) (env := [.fz O, .fz V, .fz (iL left), .ow none S, .fz (iL (r0 :: rest)), .no, .no])
          (b := fun x => decide (x ≠ r0)) (f := fun r => .int r) left fun x hx => ⟨[.fz O, .fz V, .fz (iL left), .ow none S, .fz (iL (r0 :: rest)), .fz (.int x), .no], rfl, by simp [ix0], fun _ => by simp [E3_one_by_one], rfl⟩
        have g1 : iIt (xVar 2) [.fz O, .fz V, .fz (iL left), .ow none S, .fz (iL (r0 :: rest)), .no, .no] = .ok (left.map .int, [.fz O, .fz V, .fz (iL left), .ow none S, .fz (iL (r0 :: rest)), .no, .no]) := by simp
        have g2 := comp_ok (vs := [5]) g1 q (by have : (left.filter fun x => decide (x ≠ r0)).length ≤ left.length := List.length_filter_le _ _; rw [List.length_map, sizeLine_eq]; omega)
        simp only [sSet_ap, g2, Out.bind_ok]
        rfl
theorem obo_ok {n : Nat} {o w : Int → List Int} (N : NW n o w) : ∃ ds : List Int, F_one_by_one [nD n o, nD n w] = .ok (sD (ds.map fun r => [r])) ∧ GR n o w [] (ds.map fun r => [r]) ∧ ds.Perm (chg n o w) := by
  have ch : ∀ r : Int, ∃ ys : List Int, r ∈ R n → F_reached_by [nD n w, .int r] = .ok (iL ys) ∧ (∀ y, y ∈ ys ↔ Rc w r y) ∧ ys.length ≤ n := fun r => by
    by_cases hr : r ∈ R n
    · obtain ⟨ys, h⟩ := reached_ok N.wR N.fw (by have := N.n6; omega) hr
      exact ⟨ys, fun _ => h⟩
    · exact ⟨[], fun h => absurd h hr⟩
  obtain ⟨rl, hrl⟩ := Classical.axiomOfChoice ch
  have e0 : lft n o w [] = chg n o w := by
    unfold lft
    exact List.filter_eq_self.mpr fun x _ => by simp
  have m0 : mixF o w [] [] = o := by
    funext r
    unfold mixF
    rw [if_neg (by simp), if_neg (by simp)]
  have c6 := N.chg6
  obtain ⟨ds, a', h1, h2, h3⟩ := obo_loop N (fun r hr => (hrl r hr).1) (fun r hr => by have := (hrl r hr).2.2; have := N.n6; omega) (fun r hr => (hrl r hr).2.1) 200 [] .no (by rw [e0]; omega) (by rw [e0]; simpa using c6) List.nodup_nil (fun _ h => nomatch h) trivial (by rw [m0]; exact N.facts.2.2.1)
  rw [e0] at h1
  refine ⟨ds, ?_, h2, h3⟩
  have c := N.check
  have g := changing_ok (o := o) (w := w) N.n100
  refine runB_rt (e := [.fz (nD n o), .fz (nD n w), .fz (iL []), .fz (sD (ds.map fun r => [r])), a', .no, .no]) ?_
  show B_one_by_one [.fz (nD n o), .fz (nD n w), .no, .no, .no, .no, .no] = _
  have s0 : sDrop (xCall 2 F_check_change (aCons (xVar 0) (aCons (xVar 1) (aNil)))) [.fz (nD n o), .fz (nD n w), .no, .no, .no, .no, .no] = .ok (.nx, [.fz (nD n o), .fz (nD n w), .no, .no, .no, .no, .no]) := by
    generalize nD n o = O at *
    generalize nD n w = V at *
    simp [c]
  have s1 : sSet 2 (xCall 2 F_changing (aCons (xVar 0) (aCons (xVar 1) (aNil)))) [.fz (nD n o), .fz (nD n w), .no, .no, .no, .no, .no] = .ok (.nx, [.fz (nD n o), .fz (nD n w), .fz (iL (chg n o w)), .no, .no, .no, .no]) := by
    generalize nD n o = O at *
    generalize nD n w = V at *
    simp [g]
  have s2 : sOwn 3 (xLst (aNil)) [.fz (nD n o), .fz (nD n w), .fz (iL (chg n o w)), .no, .no, .no, .no] = .ok (.nx, [.fz (nD n o), .fz (nD n w), .fz (iL (chg n o w)), .ow none (sD (([] : List Int).map fun r => [r])), .no, .no, .no]) := by
    simp [zero0, sD]
  unfold B_one_by_one
  rw [seq_nx s0, seq_nx s1, seq_nx s2, seq_nx h1]
  generalize sD (ds.map fun r => [r]) = S
  simp
end K09
set_option Elab.async false
set_option linter.all false
set_option maxRecDepth 100000
namespace K09
open PySem DP
/-! ### the least rounds -/
def okN (n : Nat) (o w : Int → List Int) (d now : List Int) : Bool := decide (now ≠ []) && !cyc n (mixF o w d now)
def pick (n : Nat) (o w : Int → List Int) (V : List Int → List (List Int)) (d : List Int) (best : Option (List (List Int))) (now : List Int) : Option (List (List Int)) :=
  if okN n o w d now = true then (match best with
    | none => some (now :: V (srtZ (d ++ now)))
    | some b => if (V (srtZ (d ++ now))).length + 1 < b.length then some (now :: V (srtZ (d ++ now))) else some b) else best
def cds (n : Nat) (o w : Int → List Int) (d : List Int) : List (List Int) := if lft n o w d = [] then [] else subs (lft n o w d)
def bestV (n : Nat) (o w : Int → List Int) (V : List Int → List (List Int)) (d : List Int) : Option (List (List Int)) := (cds n o w d).foldl (pick n o w V d) (if lft n o w d = [] then some [] else none)
def Lp (n : Nat) (o w : Int → List Int) : Nat → List Int → List (List Int)
  | 0, _ => []
  | k + 1, d => (bestV n o w (Lp n o w k) d).getD []
abbrev Lv (n : Nat) (o w : Int → List Int) (d : List Int) : List (List Int) := Lp n o w 7 d
section
variable {n : Nat} {o w : Int → List Int}
theorem lft_ext {d d' : List Int} (h : ∀ r, r ∈ d ↔ r ∈ d') : lft n o w d = lft n o w d' := by
  unfold lft
  refine List.filter_congr fun x _ => ?_
  rw [Bool.eq_iff_iff, decide_eq_true_eq, decide_eq_true_eq, h x]
theorem cds_ext {d d' : List Int} (h : ∀ r, r ∈ d ↔ r ∈ d') : cds n o w d = cds n o w d' := by
  unfold cds
  rw [lft_ext h]
theorem okN_ext {d d' now : List Int} (h : ∀ r, r ∈ d ↔ r ∈ d') : okN n o w d now = okN n o w d' now := by
  unfold okN
  rw [mix_ext h fun _ => Iff.rfl]
theorem lft_pw (d : List Int) : (lft n o w d).Pairwise (· < ·) := ((R_pw n).filter _).filter _
theorem cds_sub {d now : List Int} (h : now ∈ cds n o w d) : now.Sublist (lft n o w d) := by
  unfold cds at h
  split at h
  · cases h
  · exact subs_sub h
theorem pick_congr {V V' : List Int → List (List Int)} {d : List Int} : ∀ (C : List (List Int)) (b : Option (List (List Int))), (∀ now ∈ C, okN n o w d now = true → V (srtZ (d ++ now)) = V' (srtZ (d ++ now))) → C.foldl (pick n o w V d) b = C.foldl (pick n o w V' d) b
  | [], _, _ => rfl
  | now :: C, b, h => by
    have e : pick n o w V d b now = pick n o w V' d b now := by
      unfold pick
      by_cases c : okN n o w d now = true
      · rw [if_pos c, if_pos c, h now List.mem_cons_self c]
      · rw [if_neg c, if_neg c]
    rw [List.foldl_cons, List.foldl_cons, e]
    exact pick_congr C _ fun x hx => h x (List.mem_cons_of_mem _ hx)
theorem lft_app {d now : List Int} : lft n o w (srtZ (d ++ now)) = (lft n o w d).filter fun r => decide (r ∉ now) := by
  unfold lft
  rw [List.filter_filter]
  refine List.filter_congr fun x _ => ?_
  rw [Bool.eq_iff_iff]
  simp only [Bool.and_eq_true, decide_eq_true_eq, mem_srtZ, List.mem_append, not_or]
  exact And.comm
theorem okN_ne {d now : List Int} (h : okN n o w d now = true) : now ≠ [] ∧ cyc n (mixF o w d now) = false := by
  unfold okN at h
  simpa using h
theorem lft_lt {d now : List Int} (hs : now.Sublist (lft n o w d)) (hn : now ≠ []) : (lft n o w (srtZ (d ++ now))).length < (lft n o w d).length := by
  rw [lft_app]
  obtain ⟨r, hr⟩ := List.exists_mem_of_ne_nil now hn
  rcases Nat.lt_or_ge ((lft n o w d).filter fun r => decide (r ∉ now)).length (lft n o w d).length with q | q
  · exact q
  · have e := filter_len (fun r => decide (r ∉ now)) q
    have hm : r ∈ (lft n o w d).filter fun r => decide (r ∉ now) := by rw [e]; exact hs.subset hr
    have := (List.mem_filter.mp hm).2
    simp [hr] at this
theorem Lp_more : ∀ (k : Nat) (d : List Int), (lft n o w d).length < k → Lp n o w k d = Lp n o w (k + 1) d
  | 0, _, h => absurd h (Nat.not_lt_zero _)
  | k + 1, d, h => by
    have e : bestV n o w (Lp n o w k) d = bestV n o w (Lp n o w (k + 1)) d := by
      unfold bestV
      refine pick_congr _ _ fun now hn hk => ?_
      have := lft_lt (cds_sub hn) (okN_ne hk).1
      exact Lp_more k _ (by omega)
    show (bestV n o w (Lp n o w k) d).getD [] = (bestV n o w (Lp n o w (k + 1)) d).getD []
    rw [e]
theorem Lv_eq (h6 : (chg n o w).length ≤ 6) (d : List Int) : Lv n o w d = (bestV n o w (Lv n o w) d).getD [] := by
  have h : (lft n o w d).length ≤ 6 := Nat.le_trans (List.length_filter_le _ _) h6
  have e : bestV n o w (Lp n o w 6) d = bestV n o w (Lp n o w 7) d := by
    unfold bestV
    refine pick_congr _ _ fun now hn hk => ?_
    have := lft_lt (cds_sub hn) (okN_ne hk).1
    exact Lp_more 6 _ (by omega)
  show (bestV n o w (Lp n o w 6) d).getD [] = _
  rw [e]
theorem Lp_ext : ∀ (k : Nat) {d d' : List Int}, (∀ r, r ∈ d ↔ r ∈ d') → Lp n o w k d = Lp n o w k d'
  | 0, _, _, _ => rfl
  | k + 1, d, d', h => by
    have e : ∀ (C : List (List Int)) (b : Option (List (List Int))), C.foldl (pick n o w (Lp n o w k) d) b = C.foldl (pick n o w (Lp n o w k) d') b := by
      intro C
      induction C with
      | nil => exact fun _ => rfl
      | cons now C ih =>
        intro b
        rw [List.foldl_cons, List.foldl_cons, ih]
        have e2 : Lp n o w k (srtZ (d ++ now)) = Lp n o w k (srtZ (d' ++ now)) := Lp_ext k fun r => by
          rw [mem_srtZ, mem_srtZ, List.mem_append, List.mem_append, h r]
        unfold pick
        rw [okN_ext h, e2]
    show (bestV n o w (Lp n o w k) d).getD [] = (bestV n o w (Lp n o w k) d').getD []
    unfold bestV
    rw [e, cds_ext h, lft_ext h]
/-- what the search over C finds, from nothing -/
structure Found (n : Nat) (o w : Int → List Int) (V : List Int → List (List Int)) (d : List Int) (C : List (List Int)) (b : List (List Int)) : Prop where
  ex : ∃ now, now ∈ C ∧ okN n o w d now = true ∧ b = now :: V (srtZ (d ++ now)) ∧ (∀ c ∈ C, okN n o w d c = true → (V (srtZ (d ++ now))).length ≤ (V (srtZ (d ++ c))).length) ∧
    C.find? (fun c => okN n o w d c && decide ((V (srtZ (d ++ c))).length = (V (srtZ (d ++ now))).length)) = some now
theorem fold_some {V : List Int → List (List Int)} {d : List Int} : ∀ (C2 C1 : List (List Int)) (b : List (List Int)), Found n o w V d C1 b → ∃ b', C2.foldl (pick n o w V d) (some b) = some b' ∧ Found n o w V d (C1 ++ C2) b'
  | [], C1, b, h => ⟨b, rfl, by rw [List.append_nil]; exact h⟩
  | c :: C2, C1, b, h => by
    obtain ⟨now, h1, h2, rfl, h3, h4⟩ := h.ex
    rw [List.foldl_cons]
    have e : C1 ++ c :: C2 = (C1 ++ [c]) ++ C2 := by simp
    rw [e]
    unfold pick
    by_cases hk : okN n o w d c = true
    · rw [if_pos hk]
      simp only
      by_cases hl : (V (srtZ (d ++ c))).length + 1 < (now :: V (srtZ (d ++ now))).length
      · rw [if_pos hl]
        rw [List.length_cons] at hl
        refine fold_some C2 (C1 ++ [c]) _ ⟨c, by simp, hk, rfl, fun x hx kx => ?_, ?_⟩
        · rcases List.mem_append.mp hx with q | q
          · have := h3 x q kx; omega
          · rw [List.mem_singleton.mp q]; exact Nat.le_refl _
        · rw [List.find?_append]
          have : C1.find? (fun x => okN n o w d x && decide ((V (srtZ (d ++ x))).length = (V (srtZ (d ++ c))).length)) = none := by
            refine List.find?_eq_none.mpr fun x hx z => ?_
            simp only [Bool.and_eq_true, decide_eq_true_eq] at z
            have := h3 x hx z.1
            omega
          rw [this]
          simp [hk]
      · rw [if_neg hl]
        rw [List.length_cons] at hl
        refine fold_some C2 (C1 ++ [c]) _ ⟨now, List.mem_append_left _ h1, h2, rfl, fun x hx kx => ?_, ?_⟩
        · rcases List.mem_append.mp hx with q | q
          · exact h3 x q kx
          · rw [List.mem_singleton.mp q]; omega
        · rw [List.find?_append, h4]; rfl
    · rw [if_neg hk]
      refine fold_some C2 (C1 ++ [c]) _ ⟨now, List.mem_append_left _ h1, h2, rfl, fun x hx kx => ?_, ?_⟩
      · rcases List.mem_append.mp hx with q | q
        · exact h3 x q kx
        · rw [List.mem_singleton.mp q] at kx; exact absurd kx hk
      · rw [List.find?_append, h4]; rfl
theorem fold_none {V : List Int → List (List Int)} {d : List Int} : ∀ (C2 C1 : List (List Int)), (∀ c ∈ C1, okN n o w d c = false) → (∃ c ∈ C2, okN n o w d c = true) → ∃ b', C2.foldl (pick n o w V d) none = some b' ∧ Found n o w V d (C1 ++ C2) b'
  | [], _, _, h => by obtain ⟨c, hc, _⟩ := h; cases hc
  | c :: C2, C1, hn, h => by
    rw [List.foldl_cons]
    have e : C1 ++ c :: C2 = (C1 ++ [c]) ++ C2 := by simp
    rw [e]
    unfold pick
    cases hk : okN n o w d c with
    | true =>
      rw [if_pos rfl]
      refine fold_some C2 (C1 ++ [c]) _ ⟨c, by simp, hk, rfl, fun x hx kx => ?_, ?_⟩
      · rcases List.mem_append.mp hx with q | q
        · rw [hn x q] at kx; cases kx
        · rw [List.mem_singleton.mp q]; exact Nat.le_refl _
      · rw [List.find?_append]
        have : C1.find? (fun x => okN n o w d x && decide ((V (srtZ (d ++ x))).length = (V (srtZ (d ++ c))).length)) = none := by
          refine List.find?_eq_none.mpr fun x hx z => ?_
          rw [hn x hx] at z
          cases z
        rw [this]
        simp [hk]
    | false =>
      rw [if_neg Bool.false_ne_true]
      refine fold_none C2 (C1 ++ [c]) (fun x hx => ?_) ?_
      · rcases List.mem_append.mp hx with q | q
        · exact hn x q
        · rw [List.mem_singleton.mp q]; exact hk
      · obtain ⟨x, hx, kx⟩ := h
        rcases List.mem_cons.mp hx with q | q
        · rw [q, hk] at kx; cases kx
        · exact ⟨x, q, kx⟩
/-- a state from which one may go on -/
def Ac (n : Nat) (o w : Int → List Int) (d : List Int) : Prop := cyc n (mixF o w d []) = false
theorem Ac.next {d now : List Int} (hk : okN n o w d now = true) : Ac n o w (srtZ (d ++ now)) := by
  have := sub_safe (some := now) (okN_ne hk).2 fun _ h => h
  unfold Ac
  rwa [mix_ext (d' := d ++ now) (m' := []) (fun r => mem_srtZ) fun _ => Iff.rfl]
theorem best_ex (N : NW n o w) {V : List Int → List (List Int)} {d : List Int} (ha : Ac n o w d) (hl : lft n o w d ≠ []) : ∃ b, bestV n o w V d = some b ∧ Found n o w V d (subs (lft n o w d)) b := by
  obtain ⟨r, h1, h2⟩ := one_ex N.wR N.facts.2.2.2 hl
  have s := one_safe N.wR ha N.facts.2.2.2 h1 h2
  have := fold_none (n := n) (o := o) (w := w) (V := V) (d := d) (subs (lft n o w d)) [] (fun _ h => nomatch h) ⟨[r], subs_one h1, by unfold okN; rw [s]; simp⟩
  unfold bestV cds
  rw [if_neg hl, if_neg hl]
  simpa using this
/-- the least rounds: none where nothing is left; else the first of the best -/
theorem Lv_nil (N : NW n o w) {d : List Int} (hl : lft n o w d = []) : Lv n o w d = [] := by
  rw [Lv_eq N.chg6]
  unfold bestV cds
  rw [if_pos hl, if_pos hl]
  rfl
theorem Lv_cons (N : NW n o w) {d : List Int} (ha : Ac n o w d) (hl : lft n o w d ≠ []) : bestV n o w (Lv n o w) d = some (Lv n o w d) ∧ Found n o w (Lv n o w) d (subs (lft n o w d)) (Lv n o w d) := by
  obtain ⟨b, h1, h2⟩ := best_ex (V := Lv n o w) N ha hl
  have : Lv n o w d = b := by rw [Lv_eq N.chg6, h1]; rfl
  rw [this]
  exact ⟨h1, h2⟩
theorem best_Lv (N : NW n o w) {d : List Int} (ha : Ac n o w d) : bestV n o w (Lv n o w) d = some (Lv n o w d) := by
  by_cases hl : lft n o w d = []
  · rw [Lv_nil N hl]
    unfold bestV cds
    rw [if_pos hl, if_pos hl]
    rfl
  · exact (Lv_cons N ha hl).1
theorem GR_ext {rows : List (List Int)} : ∀ {d d' : List Int}, (∀ r, r ∈ d ↔ r ∈ d') → GR n o w d rows → GR n o w d' rows := by
  induction rows with
  | nil => exact fun _ _ => trivial
  | cons x rows ih =>
    intro d d' h g
    exact ⟨g.1, g.2.1, by rw [← mix_ext h fun _ => Iff.rfl]; exact g.2.2.1, ih (fun r => by rw [List.mem_append, List.mem_append, h r]) g.2.2.2⟩
theorem Lv_good (N : NW n o w) : ∀ (k : Nat) (d : List Int), (lft n o w d).length < k → Ac n o w d → GR n o w d (Lv n o w d) ∧ (Lv n o w d).flatten.Perm (lft n o w d)
  | 0, _, h, _ => absurd h (Nat.not_lt_zero _)
  | k + 1, d, h, ha => by
    by_cases hl : lft n o w d = []
    · rw [Lv_nil N hl, hl]
      exact ⟨trivial, List.Perm.refl _⟩
    · obtain ⟨now, h1, h2, h3, _, _⟩ := (Lv_cons N ha hl).2.ex
      have hs := subs_sub h1
      obtain ⟨k1, k2⟩ := okN_ne h2
      have := lft_lt hs k1
      obtain ⟨g, p⟩ := Lv_good N k (srtZ (d ++ now)) (by omega) (Ac.next h2)
      rw [h3]
      refine ⟨⟨k1, (lft_pw d).sublist hs, k2, GR_ext (fun r => mem_srtZ) g⟩, ?_⟩
      rw [List.flatten_cons]
      refine (List.Perm.append_left now p).trans ?_
      rw [lft_app]
      have nd : (lft n o w d).Nodup := (lft_pw d).imp fun h => by omega
      have nn : now.Nodup := nd.sublist hs
      refine (List.perm_ext_iff_of_nodup ?_ nd).mpr fun x => ?_
      · rw [List.nodup_append]
        refine ⟨nn, nd.filter _, fun a ha b hb e => ?_⟩
        have := (List.mem_filter.mp hb).2
        rw [← e] at this
        simp [ha] at this
      · rw [List.mem_append, List.mem_filter, decide_eq_true_eq]
        constructor
        · rintro (q | q)
          · exact hs.subset q
          · exact q.1
        · intro q
          by_cases hm : x ∈ now
          · exact .inl hm
          · exact .inr ⟨q, hm⟩
theorem GR_len {rows : List (List Int)} : ∀ {d : List Int}, GR n o w d rows → rows.length ≤ rows.flatten.length := by
  induction rows with
  | nil => exact fun _ => Nat.le_refl _
  | cons x rows ih =>
    intro d g
    have := ih g.2.2.2
    have : 0 < x.length := Nat.pos_of_ne_zero fun z => g.1 (List.eq_nil_of_length_eq_zero z)
    rw [List.flatten_cons, List.length_append, List.length_cons]
    omega
theorem Lv_len (N : NW n o w) {d : List Int} (ha : Ac n o w d) : (Lv n o w d).length ≤ 6 := by
  have h6 := lft_len N d
  obtain ⟨g, p⟩ := Lv_good N 7 d (by omega) ha
  have := GR_len g
  have := p.length_eq
  omega
end
end K09
set_option Elab.async false
set_option linter.all false
set_option maxRecDepth 100000
namespace K09
open PySem DP
/-! ### what is known already -/
def entV (V : List Int → D) (d : List Int) : D × D := (tupI d, V d)
def memD (V : List Int → D) (es : List (List Int)) : D := .dict (es.map (entV V))
def numK : Int → NestedKey := fun i => .num i
theorem keys_ints : ∀ d : List Int, keysD (d.map PyData.int) = some (d.map numK)
  | [] => rfl
  | x :: d => by
    rw [List.map_cons]
    unfold keysD
    rw [keys_ints d]
    rfl
theorem key_tupI (d : List Int) : keyD (tupI d) = some (.tup (d.map numK)) := by
  unfold tupI
  simp only [keyD]
  rw [keys_ints d]
  rfl
theorem num_inj : ∀ {a b : List Int}, a.map numK = b.map numK → a = b
  | [], [], _ => rfl
  | [], _ :: _, h => by cases h
  | _ :: _, [], h => by cases h
  | x :: a, y :: b, h => by
    rw [List.map_cons, List.map_cons] at h
    injection h with h1 h2
    injection h1 with h1
    rw [h1, num_inj h2]
theorem kIs_mem (V : List Int → D) (k d : List Int) : kIs (tupI k) (entV V d) = decide (d = k) := by
  unfold kIs entV
  rw [key_tupI, key_tupI, Bool.eq_iff_iff, decide_eq_true_eq, decide_eq_true_eq]
  constructor
  · intro h
    injection h with h
    injection h with h
    exact num_inj h
  · rintro rfl; rfl
theorem key_depth : ∀ d : List Int, NestedKey.depthAll (d.map numK) = 0
  | [] => rfl
  | x :: d => by
    rw [List.map_cons]
    unfold NestedKey.depthAll
    rw [key_depth d]
    rfl
theorem keyOk_tupI (d : List Int) : keyOk (tupI d) = true := by
  unfold keyOk
  rw [key_tupI]
  simp only
  refine decide_eq_true ?_
  unfold NestedKey.depth
  rw [key_depth]
  decide
theorem any_mem (V : List Int → D) (k : List Int) (es : List (List Int)) : (es.map (entV V)).any (kIs (tupI k)) = decide (k ∈ es) := by
  rw [List.any_map, Bool.eq_iff_iff]
  simp only [List.any_eq_true, Function.comp, kIs_mem, decide_eq_true_eq]
  exact ⟨fun ⟨x, h, e⟩ => e ▸ h, fun h => ⟨k, h, rfl⟩⟩
theorem nin_mem (V : List Int → D) (k : List Int) (es : List (List Int)) : ninD2 (tupI k) (memD V es) = some (.bool (decide (k ∉ es))) := by
  show (if keyOk (tupI k) = true then some (PyData.bool (!((es.map (entV V)).any (kIs (tupI k))))) else none) = _
  rw [if_pos (keyOk_tupI k), any_mem]
  by_cases h : k ∈ es <;> simp [h]
theorem dAt_mem (V : List Int → D) (k : List Int) : ∀ es : List (List Int), k ∈ es → dAt (es.map (entV V)) (tupI k) = some (V k)
  | [], h => by cases h
  | d :: es, h => by
    unfold dAt
    rw [List.map_cons, List.find?_cons, kIs_mem]
    by_cases e : d = k
    · subst e
      simp [entV]
    · rw [decide_eq_false e]
      exact dAt_mem V k es ((List.mem_cons.mp h).resolve_left fun z => e z.symm)
theorem ix_mem (V : List Int → D) {k : List Int} {es : List (List Int)} (h : k ∈ es) : ixD (memD V es) (tupI k) = some (V k) := by
  show (if keyOk (tupI k) = true then dAt (es.map (entV V)) (tupI k) else none) = _
  rw [if_pos (keyOk_tupI k), dAt_mem V k es h]
theorem put_mem (V : List Int → D) {k : List Int} {es : List (List Int)} (h : k ∉ es) : dPut (es.map (entV V)) (tupI k) (V k) = (es ++ [k]).map (entV V) := by
  unfold dPut
  rw [any_mem, decide_eq_false h, if_neg Bool.false_ne_true, List.map_append]
  rfl
/-! how much may be known -/
theorem sub_grow : ∀ (m : Nat) (xs t : List Int), xs.length ≤ m → t.Sublist xs → t ∈ xs.foldl grow [[]]
  | m, xs, t, hm, h => by
    rcases List.eq_nil_or_concat xs with rfl | ⟨ys, x, rfl⟩
    · rw [List.eq_nil_of_sublist_nil h]; simp
    · rw [List.concat_eq_append] at *
      rw [List.foldl_append]
      show t ∈ grow (ys.foldl grow [[]]) x
      obtain ⟨t1, t2, rfl, h1, h2⟩ := List.sublist_append_iff.mp h
      cases m with
      | zero => simp at hm
      | succ m =>
        have ih := sub_grow m ys t1 (by simp at hm; omega) h1
        rcases List.eq_nil_or_concat t2 with rfl | ⟨u, y, rfl⟩
        · rw [List.append_nil]
          exact List.mem_append_left _ ih
        · rw [List.concat_eq_append] at h2 ⊢
          have h3 := h2.length_le
          rw [List.length_append, List.length_singleton, List.length_singleton] at h3
          have hu : u = [] := List.eq_nil_of_length_eq_zero (by omega)
          subst hu
          have hy : y = x := by have := h2.subset (show y ∈ ([] ++ [y] : List Int) by simp); simpa using this
          subst hy
          exact List.mem_append_right _ (List.mem_map.mpr ⟨t1, ih, rfl⟩)
theorem nodup_lenL : ∀ (ks m : List (List Int)), ks.Nodup → (∀ a ∈ ks, a ∈ m) → ks.length ≤ m.length
  | [], _, _, _ => Nat.zero_le _
  | a :: t, m, nd, h => by
    rw [List.nodup_cons] at nd
    have ha := h a List.mem_cons_self
    have := nodup_lenL t (m.erase a) nd.2 fun b hb => by
      have hne : b ≠ a := fun z => nd.1 (z ▸ hb)
      exact (List.mem_erase_of_ne hne).mpr (h b (List.mem_cons_of_mem _ hb))
    have h2 := List.length_erase_of_mem ha
    have h3 : 0 < m.length := List.length_pos_of_mem ha
    rw [List.length_cons]
    omega
/-- the known ones: each once, rising, of those who change -/
structure Mem (n : Nat) (o w : Int → List Int) (es : List (List Int)) : Prop where
  nd : es.Nodup
  sub : ∀ d ∈ es, d.Sublist (chg n o w)
section
variable {n : Nat} {o w : Int → List Int}
theorem Mem.len (N : NW n o w) {es : List (List Int)} (h : Mem n o w es) : es.length ≤ 512 := by
  have := nodup_lenL es _ h.nd fun d hd => sub_grow 6 (chg n o w) d N.chg6 (h.sub d hd)
  rw [grow_foldl_len] at this
  have := pow6 (k := (chg n o w).length) (by have := N.chg6; omega)
  simp at *
  omega
theorem Mem.put {es : List (List Int)} (h : Mem n o w es) {d : List Int} (h1 : d ∉ es) (h2 : d.Sublist (chg n o w)) : Mem n o w (es ++ [d]) := by
  refine ⟨?_, fun x hx => ?_⟩
  · rw [List.nodup_append]
    exact ⟨h.nd, by simp, fun x hx y hy => by rw [List.mem_singleton.mp hy]; exact fun z => h1 (z ▸ hx)⟩
  · rcases List.mem_append.mp hx with q | q
    · exact h.sub x q
    · rw [List.mem_singleton.mp q]; exact h2
theorem chg_pw : (chg n o w).Pairwise (· < ·) := (R_pw n).filter _
/-- rising, of those who change: a selection of them -/
theorem sub_of {d : List Int} (h : d.Pairwise (· < ·)) (k : ∀ x ∈ d, x ∈ chg n o w) : d.Sublist (chg n o w) := by
  have : d = (chg n o w).filter fun x => decide (x ∈ d) := pw_ext h (chg_pw.filter _) fun a => by
    rw [List.mem_filter, decide_eq_true_eq]
    exact ⟨fun q => ⟨k a q, q⟩, fun q => q.2⟩
  rw [this]
  exact List.filter_sublist
/-- who is through, as it is kept: rising, of those who change -/
structure Dn (n : Nat) (o w : Int → List Int) (d : List Int) : Prop where
  nd : d.Nodup
  sub : ∀ x ∈ d, x ∈ chg n o w
theorem Dn.srt {d : List Int} (h : Dn n o w d) : (srtZ d).Pairwise (· < ·) ∧ (srtZ d).Sublist (chg n o w) := by
  have nd : (srtZ d).Nodup := (srtZ_perm d).nodup_iff.mpr h.nd
  have pw : (srtZ d).Pairwise (· < ·) := List.Pairwise.imp₂ (fun a b h n => by
    have := of_decide_eq_true (show decide (a ≤ b) = true from h)
    omega) (srtZ_pw d) nd
  exact ⟨pw, sub_of pw fun x hx => h.sub x (mem_srtZ.mp hx)⟩
theorem Dn.app {d now : List Int} (h : Dn n o w d) (hs : now.Sublist (lft n o w d)) : Dn n o w (d ++ now) := by
  refine ⟨?_, fun x hx => ?_⟩
  · rw [List.nodup_append]
    refine ⟨h.nd, ((lft_pw d).imp fun h => by omega).sublist hs, fun a ha b hb e => ?_⟩
    exact (mem_lft.mp (hs.subset hb)).2.2 (e ▸ ha)
  · rcases List.mem_append.mp hx with q | q
    · exact h.sub x q
    · have := mem_lft.mp (hs.subset q)
      exact mem_chg.mpr ⟨this.1, this.2.1⟩
theorem Dn.srtd {d : List Int} (h : Dn n o w d) : Dn n o w (srtZ d) := ⟨(srtZ_perm d).nodup_iff.mpr h.nd, fun x hx => h.sub x (mem_srtZ.mp hx)⟩
theorem Dn.len (N : NW n o w) {d : List Int} (h : Dn n o w d) : d.length ≤ 6 := Nat.le_trans (nodup_len (l := d) d _ h.nd h.sub) N.chg6
end
end K09
set_option Elab.async false
set_option linter.all false
set_option maxRecDepth 100000
namespace K09
open PySem DP
theorem runIO_rt {N n : Nat} {B : SF} {ds : List D} {c c' d : D} {e : Ev} (h : B (ds.map .fz ++ .ow (some 0) c :: List.replicate (N - (n + 1)) .no) = .ok (.rt d, e)) (h2 : e[n]? = some (.ow (some 0) c')) : runIO N n B ds c = .ok (d, c') := by
  unfold runIO
  rw [h]
  simp only
  unfold endIO
  rw [h2]
  rfl
theorem xn1_ok {on : List D → Option D} {f : XF} {env e1 : Ev} {d z : D} (h : f env = .ok (d, e1)) (h2 : on [d] = some z) : xn on (aCons f aNil) env = .ok (z, e1) := by
  simp only [xn_ap, aCons_ap, h, Out.bind_ok, aNil_ap, h2, liftO_some]
theorem a3_ok {f g k : XF} {env : Ev} {x y z : D} (h1 : f env = .ok (x, env)) (h2 : g env = .ok (y, env)) (h3 : k env = .ok (z, env)) : aCons f (aCons g (aCons k aNil)) env = .ok ([x, y, z], env) := by
  simp only [aCons_ap, h1, h2, h3, Out.bind_ok, aNil_ap]
theorem put_again {V : List Int → D} {k : List Int} {es : List (List Int)} (h : k ∈ es) : dPut (es.map (entV V)) (tupI k) (V k) = es.map (entV V) := by
  unfold dPut
  rw [any_mem, decide_eq_true h, if_pos rfl, List.map_map]
  refine List.map_congr_left fun e _ => ?_
  simp only [Function.comp, kIs_mem, decide_eq_true_eq]
  by_cases c : e = k
  · rw [if_pos c, c]; rfl
  · rw [if_neg c]
def bD : Option (List (List Int)) → D
  | none => .none
  | some b => sD b
@[simp] theorem sD_len (L : List (List Int)) : lenD [sD L] = some (.int L.length) := by simp [sD]
abbrev VL (n : Nat) (o w : Int → List Int) (d : List Int) : D := sD (Lv n o w d)
/-- what a search gives */
-/
def RecL (n : Nat) (o w : Int → List Int) (m : Nat) (R : FIO) : Prop := ∀ (d : List Int) (es : List (List Int)), (lft n o w d).length < m → Ac n o w d → Dn n o w d → d.Pairwise (· < ·) → Mem n o w es →
  ∃ es', R [nD n o, nD n w, tupI d] (memD (VL n o w) es) = .ok (sD (Lv n o w d), memD (VL n o w) es') ∧ Mem n o w es'
theorem pos_ne {now : List Int} : decide ((0 : Int) < (now.length : Int)) = decide (now ≠ []) := by
  rw [Bool.eq_iff_iff, decide_eq_true_eq, decide_eq_true_eq]
  constructor
  · rintro h rfl
    simp at h
  · intro h
    have : now.length ≠ 0 := fun z => h (List.eq_nil_of_length_eq_zero z)
    omega
section
variable {n : Nat} {o w : Int → List Int}
theorem pick_none {V : List Int → List (List Int)} {d now : List Int} (hk : okN n o w d now = true) : pick n o w V d none now = some (now :: V (srtZ (d ++ now))) := by unfold pick; rw [hk]; rfl
theorem pick_some {V : List Int → List (List Int)} {d now : List Int} {b : List (List Int)} (hk : okN n o w d now = true) : pick n o w V d (some b) now = if (V (srtZ (d ++ now))).length + 1 < b.length then some (now :: V (srtZ (d ++ now))) else some b := by unfold pick; rw [hk]; rfl
theorem lf_body (N : NW n o w) {m : Nat} {R : FIO} (hR : RecL n o w m R) {d : List Int} (ha : Ac n o w d) (hd : Dn n o w d) (hm : (lft n o w d).length < m + 1) {now : List Int} (hs : now.Sublist (lft n o w d)) {best : Option (List (List Int))} (hb : ∀ b, best = some b → b.length ≤ 100) {es : List (List Int)} (he : Mem n o w es) (b : Sl) :
    ∃ es' b', Y2_least_from R [.fz (nD n o), .fz (nD n w), .fz (tupI d), .ow (some 0) (memD (VL n o w) es), .fz (iL (lft n o w d)), .fz (bD best), .fz (iL now), .no, b] =
      .ok (.nx, [.fz (nD n o), .fz (nD n w), .fz (tupI d), .ow (some 0) (memD (VL n o w) es'), .fz (iL (lft n o w d)), .fz (bD (pick n o w (Lv n o w) d best now)), .fz (iL now), .no, b']) ∧ Mem n o w es' ∧ ∀ b, pick n o w (Lv n o w) d best now = some b → b.length ≤ 100 := by
  have sf := rsafe_ok N.fo N.fw N.n100 d now
  have l6 := lft_len N d
  have hnl : now.length ≤ 6 := Nat.le_trans hs.length_le l6
  have dl := hd.len N
  have t : tAndF (tst (x2 gtD (xn lenD (aCons (xVar 6) (aNil))) (xConst (.int 0)))) (tst (xCall 4 F_is_round_safe (aCons (xVar 0) (aCons (xVar 1) (aCons (xn listD2 (aCons (xVar 2) (aNil))) (aCons (xVar 6) (aNil)))))))
      [.fz (nD n o), .fz (nD n w), .fz (tupI d), .ow (some 0) (memD (VL n o w) es), .fz (iL (lft n o w d)), .fz (bD best), .fz (iL now), .no, b] = .ok (okN n o w d now, [.fz (nD n o), .fz (nD n w), .fz (tupI d), .ow (some 0) (memD (VL n o w) es), .fz (iL (lft n o w d)), .fz (bD best), .fz (iL now), .no, b]) := by
    unfold okN
    generalize nD n o = O at *
    generalize nD n w = V at *
    generalize memD (VL n o w) es = M
    generalize bD best = BB
    generalize iL (lft n o w d) = LL
    refine tand_ok ?_ fun _ => ?_
    · rw [← pos_ne]
      simp
    · simp [sf]
  cases hk : okN n o w d now with
  | false =>
    rw [hk] at t
    refine ⟨es, b, ?_, he, fun b' h => ?_⟩
    · unfold Y2_least_from
      rw [if_no t]
      have : pick n o w (Lv n o w) d best now = best := by unfold pick; rw [hk]; rfl
      rw [this]
      rfl
    · have : pick n o w (Lv n o w) d best now = best := by unfold pick; rw [hk]; rfl
      rw [this] at h
      exact hb b' h
  | true =>
    rw [hk] at t
    have hne := (okN_ne hk).1
    have hlt := lft_lt (o := o) (w := w) (d := d) hs hne
    have hap := hd.app hs
    obtain ⟨es2, r1, r2⟩ := hR (srtZ (d ++ now)) es (by omega) (Ac.next hk) hap.srtd hap.srt.1 he
    have rl := Lv_len N (Ac.next hk)
    have s1 : sSet 8 (xCallIO 3 R 3 (aCons (xVar 0) (aCons (xVar 1) (aCons (xn tupleD (aCons (xn sortedD2 (aCons (xLst (aStar (xVar 2) (aStar (xVar 6) (aNil)))) (aNil))) (aNil))) (aNil)))))
        [.fz (nD n o), .fz (nD n w), .fz (tupI d), .ow (some 0) (memD (VL n o w) es), .fz (iL (lft n o w d)), .fz (bD best), .fz (iL now), .no, b] =
        .ok (.nx, [.fz (nD n o), .fz (nD n w), .fz (tupI d), .ow (some 0) (memD (VL n o w) es2), .fz (iL (lft n o w d)), .fz (bD best), .fz (iL now), .no, .fz (sD (Lv n o w (srtZ (d ++ now))))]) := by
      have c := callIO_ok (n := 3) (F := R) (i := 3) (l := aCons (xVar 0) (aCons (xVar 1) (aCons (xn tupleD (aCons (xn sortedD2 (aCons (xLst (aStar (xVar 2) (aStar (xVar 6) (aNil)))) (aNil))) (aNil))) (aNil))))
        (env := [.fz (nD n o), .fz (nD n w), .fz (tupI d), .ow (some 0) (memD (VL n o w) es), .fz (iL (lft n o w d)), .fz (bD best), .fz (iL now), .no, b]) (e1 := [.fz (nD n o), .fz (nD n w), .fz (tupI d), .ow (some 0) (memD (VL n o w) es), .fz (iL (lft n o w d)), .fz (bD best), .fz (iL now), .no, b])
        (ds := [nD n o, nD n w, tupI (srtZ (d ++ now))]) rfl ?_ rfl rfl r1
      · simp only [sSet_ap, c, Out.bind_ok]
        rfl
      · generalize nD n o = O
        generalize nD n w = V
        generalize memD (VL n o w) es = M
        generalize bD best = BB
        generalize iL (lft n o w d) = LL
        have q : (d.map PyData.int ++ now.map PyData.int).length ≤ sizeLine := by rw [List.length_append, List.length_map, List.length_map, sizeLine_eq]; omega
        have e4 : xLst (aStar (xVar 2) (aStar (xVar 6) (aNil))) [.fz O, .fz V, .fz (tupI d), .ow (some 0) M, .fz LL, .fz BB, .fz (iL now), .no, b] = .ok (iL (d ++ now), [.fz O, .fz V, .fz (tupI d), .ow (some 0) M, .fz LL, .fz BB, .fz (iL now), .no, b]) := by
          simp only [xLst_ap, aStar_ap, aNil_ap]
          rw [xVar_fz (d := tupI d) rfl]
          simp only [Out.bind_ok, tupI, seqO_t]
          rw [xVar_fz (d := iL now) rfl]
          simp only [Out.bind_ok, iL, seqO_l, List.append_nil]
          rw [if_pos q, List.map_append]
          rfl
        exact a3_ok (xVar_fz rfl) (xVar_fz rfl) (xn1_ok (xn1_ok e4 (sorted_iL _)) (tuple_iL _))
    have zl : (iL now :: (Lv n o w (srtZ (d ++ now))).map iL).length ≤ sizeLine := by rw [List.length_cons, List.length_map, sizeLine_eq]; omega
    have set5 : ∀ BB : D, sSet 5 (xLst (aCons (xVar 6) (aStar (xVar 8) (aNil)))) [.fz (nD n o), .fz (nD n w), .fz (tupI d), .ow (some 0) (memD (VL n o w) es2), .fz (iL (lft n o w d)), .fz BB, .fz (iL now), .no, .fz (sD (Lv n o w (srtZ (d ++ now))))] =
        .ok (.nx, [.fz (nD n o), .fz (nD n w), .fz (tupI d), .ow (some 0) (memD (VL n o w) es2), .fz (iL (lft n o w d)), .fz (sD (now :: Lv n o w (srtZ (d ++ now)))), .fz (iL now), .no, .fz (sD (Lv n o w (srtZ (d ++ now))))]) := fun BB => by
      unfold sD at *
      generalize nD n o = O
      generalize nD n w = V
      generalize memD (VL n o w) es2 = M
      generalize iL (lft n o w d) = LL
      simp only [sSet_ap, xLst_ap, aCons_ap, aStar_ap, aNil_ap]
      rw [xVar_fz (d := iL now) rfl]
      simp only [Out.bind_ok]
      rw [xVar_fz (d := .list ((Lv n o w (srtZ (d ++ now))).map iL)) rfl]
      simp only [Out.bind_ok, seqO_l, List.append_nil]
      rw [if_pos zl]
      rfl
    cases best with
    | none =>
      rw [pick_none hk]
      refine ⟨es2, .fz (sD (Lv n o w (srtZ (d ++ now)))), ?_, r2, fun b' h => by cases h; rw [List.length_cons]; omega⟩
      unfold Y2_least_from
      rw [if_yes t, seq_nx s1]
      rw [if_yes (e1 := [.fz (nD n o), .fz (nD n w), .fz (tupI d), .ow (some 0) (memD (VL n o w) es2), .fz (iL (lft n o w d)), .fz (bD none), .fz (iL now), .no, .fz (sD (Lv n o w (srtZ (d ++ now))))])]
      · exact set5 _
      · generalize nD n o = O
        generalize nD n w = V
        generalize memD (VL n o w) es2 = M
        simp [bD, isN, isNb]
    | some b0 =>
      have hb0 := hb b0 rfl
      have t2 : (tOrF (tst (x1 isN (xVar 5))) (tst (x2 ltD (x2 addD (xn lenD (aCons (xVar 8) (aNil))) (xConst (.int 1))) (xn lenD (aCons (xVar 5) (aNil)))))) [.fz (nD n o), .fz (nD n w), .fz (tupI d), .ow (some 0) (memD (VL n o w) es2), .fz (iL (lft n o w d)), .fz (sD b0), .fz (iL now), .no, .fz (sD (Lv n o w (srtZ (d ++ now))))] =
          .ok (decide ((Lv n o w (srtZ (d ++ now))).length + 1 < b0.length), [.fz (nD n o), .fz (nD n w), .fz (tupI d), .ow (some 0) (memD (VL n o w) es2), .fz (iL (lft n o w d)), .fz (sD b0), .fz (iL now), .no, .fz (sD (Lv n o w (srtZ (d ++ now))))]) := by
        have c : decide ((((Lv n o w (srtZ (d ++ now))).length : Nat) : Int) + 1 < (b0.length : Nat)) = decide ((Lv n o w (srtZ (d ++ now))).length + 1 < b0.length) := by
          rw [Bool.eq_iff_iff, decide_eq_true_eq, decide_eq_true_eq]
          omega
        rw [← c]
        have z : isN (sD b0) = some (.bool false) := rfl
        generalize nD n o = O
        generalize nD n w = V
        generalize memD (VL n o w) es2 = M
        have e1 := sD_len b0
        have e2 := sD_len (Lv n o w (srtZ (d ++ now)))
        generalize sD b0 = B0 at *
        generalize sD (Lv n o w (srtZ (d ++ now))) = B1 at *
        simp [z, e1, e2]
      rw [pick_some hk]
      by_cases hlt2 : (Lv n o w (srtZ (d ++ now))).length + 1 < b0.length
      · rw [if_pos hlt2]
        rw [decide_eq_true hlt2] at t2
        refine ⟨es2, .fz (sD (Lv n o w (srtZ (d ++ now)))), ?_, r2, fun b' h => by cases h; rw [List.length_cons]; omega⟩
        unfold Y2_least_from
        rw [if_yes t, seq_nx s1]
        show sIf _ _ _ [.fz (nD n o), .fz (nD n w), .fz (tupI d), .ow (some 0) (memD (VL n o w) es2), .fz (iL (lft n o w d)), .fz (sD b0), .fz (iL now), .no, .fz (sD (Lv n o w (srtZ (d ++ now))))] = _
        rw [if_yes t2]
        exact set5 _
      · rw [if_neg hlt2]
        rw [decide_eq_false hlt2] at t2
        refine ⟨es2, .fz (sD (Lv n o w (srtZ (d ++ now)))), ?_, r2, fun b' h => by cases h; exact hb0⟩
        unfold Y2_least_from
        rw [if_yes t, seq_nx s1]
        show sIf _ _ _ [.fz (nD n o), .fz (nD n w), .fz (tupI d), .ow (some 0) (memD (VL n o w) es2), .fz (iL (lft n o w d)), .fz (sD b0), .fz (iL now), .no, .fz (sD (Lv n o w (srtZ (d ++ now))))] = _
        rw [if_no t2]
        rfl
theorem lf_loop (N : NW n o w) {m : Nat} {R : FIO} (hR : RecL n o w m R) {d : List Int} (ha : Ac n o w d) (hd : Dn n o w d) (hm : (lft n o w d).length < m + 1) : ∀ (C : List (List Int)) (best : Option (List (List Int))) (es : List (List Int)) (a b : Sl), (∀ now ∈ C, now.Sublist (lft n o w d)) → (∀ b, best = some b → b.length ≤ 100) → Mem n o w es →
    ∃ es' a' b', forL (gN 6) (Y2_least_from R) (C.map iL) [.fz (nD n o), .fz (nD n w), .fz (tupI d), .ow (some 0) (memD (VL n o w) es), .fz (iL (lft n o w d)), .fz (bD best), a, .no, b] =
      .ok (.nx, [.fz (nD n o), .fz (nD n w), .fz (tupI d), .ow (some 0) (memD (VL n o w) es'), .fz (iL (lft n o w d)), .fz (bD (C.foldl (pick n o w (Lv n o w) d) best)), a', .no, b']) ∧ Mem n o w es'
  | [], best, es, a, b, _, _, he => ⟨es, a, b, rfl, he⟩
  | now :: C, best, es, a, b, hC, hb, he => by
    obtain ⟨es1, b1, h1, h2, h3⟩ := lf_body N hR ha hd hm (hC now List.mem_cons_self) hb he b
    obtain ⟨es2, a2, b2, h4, h5⟩ := lf_loop N hR ha hd hm C (pick n o w (Lv n o w) d best now) es1 (.fz (iL now)) b1 (fun x hx => hC x (List.mem_cons_of_mem _ hx)) h3 h2
    refine ⟨es2, a2, b2, ?_, h5⟩
    rw [List.map_cons, List.foldl_cons]
    conv => lhs; unfold forL
    simp only [gN_ap]
    show ((Y2_least_from R [.fz (nD n o), .fz (nD n w), .fz (tupI d), .ow (some 0) (memD (VL n o w) es), .fz (iL (lft n o w d)), .fz (bD best), .fz (iL now), .no, b]).bind _) = _
    rw [h1]
    exact h4
theorem lf_left (N : NW n o w) {d : List Int} (R : FIO) (k a b c e : Sl) : sSet 4 (xComp (iIt (xCall 2 F_changing (aCons (xVar 0) (aCons (xVar 1) (aNil))))) (gN 7) (tst (x2 ninD2 (xVar 7) (xVar 2))) (E1_least_from R) [7]) [.fz (nD n o), .fz (nD n w), .fz (tupI d), k, a, b, c, .no, e] =
    .ok (.nx, [.fz (nD n o), .fz (nD n w), .fz (tupI d), k, .fz (iL (lft n o w d)), b, c, .no, e]) := by
  have g := changing_ok (o := o) (w := w) N.n100
  have c6 := N.chg6
  generalize nD n o = O at *
  generalize nD n w = V at *
  have q := cmp_map (F := PyData.int) (g := gN 7) (ts := tst (x2 ninD2 (xVar 7) (xVar 2))) (el := E1_least_from R) (vs := [7]) (env := [.fz O, .fz V, .fz (tupI d), k, a, b, c, .no, e])
    (b := fun r => decide (r ∉ d)) (f := fun r => .int r) (chg n o w) fun r hr => ⟨[.fz O, .fz V, .fz (tupI d), k, a, b, c, .fz (.int r), e], rfl, by simp, fun _ => by simp [E1_least_from], rfl⟩
  have g1 : iIt (xCall 2 F_changing (aCons (xVar 0) (aCons (xVar 1) (aNil)))) [.fz O, .fz V, .fz (tupI d), k, a, b, c, .no, e] = .ok ((chg n o w).map .int, [.fz O, .fz V, .fz (tupI d), k, a, b, c, .no, e]) := by simp [g]
  have g2 := comp_ok (vs := [7]) g1 q (by have := lft_len N d; rw [List.length_map, sizeLine_eq]; show (lft n o w d).length ≤ _; omega)
  simp only [sSet_ap, g2, Out.bind_ok]
  rfl
theorem least_from_ok (N : NW n o w) : ∀ m : Nat, RecL n o w m (F_least_from m)
  | 0 => fun d es h => absurd h (Nat.not_lt_zero _)
  | m + 1 => fun d es h ha hd pw he => by
    have hR := least_from_ok N m
    have e0 := nin_mem (VL n o w) d es
    have t : tst (x2B ninD2 (xVar 2) 3) [.fz (nD n o), .fz (nD n w), .fz (tupI d), .ow (some 0) (memD (VL n o w) es), .no, .no, .no, .no, .no] = .ok (decide (d ∉ es), [.fz (nD n o), .fz (nD n w), .fz (tupI d), .ow (some 0) (memD (VL n o w) es), .no, .no, .no, .no, .no]) := by
      generalize memD (VL n o w) es = M at *
      generalize nD n o = O
      generalize nD n w = V
      simp [slotC, e0]
    by_cases hm : d ∈ es
    · rw [decide_eq_false (fun z => z hm)] at t
      have e1 := ix_mem (VL n o w) hm
      refine ⟨es, runIO_rt (e := [.fz (nD n o), .fz (nD n w), .fz (tupI d), .ow (some 0) (memD (VL n o w) es), .no, .no, .no, .no, .no]) ?_ rfl, he⟩
      show B_least_from (F_least_from m) [.fz (nD n o), .fz (nD n w), .fz (tupI d), .ow (some 0) (memD (VL n o w) es), .no, .no, .no, .no, .no] = _
      unfold B_least_from
      rw [seq_nx (f := sIf _ _ _) (e1 := [.fz (nD n o), .fz (nD n w), .fz (tupI d), .ow (some 0) (memD (VL n o w) es), .no, .no, .no, .no, .no]) (by rw [if_no t]; rfl)]
      generalize memD (VL n o w) es = M at *
      generalize nD n o = O
      generalize nD n w = V
      simp [slotC, e1]
    · rw [decide_eq_true hm] at t
      have l6 := lft_len N d
      obtain ⟨es2, a2, b2, h1, h2⟩ := lf_loop N hR ha hd (show (lft n o w d).length < m + 1 from h) (cds n o w d) (if lft n o w d = [] then some [] else none) es .no .no (fun now hn => cds_sub hn) (fun b hb => by split at hb <;> cases hb; simp) he
      have hbest : (cds n o w d).foldl (pick n o w (Lv n o w) d) (if lft n o w d = [] then some [] else none) = some (Lv n o w d) := best_Lv N ha
      rw [hbest] at h1
      have s2 : sSet 5 (xIf (tst (x2 eqD2 (xn lenD (aCons (xVar 4) (aNil))) (xConst (.int 0)))) (xLst (aNil)) (xConst .none)) [.fz (nD n o), .fz (nD n w), .fz (tupI d), .ow (some 0) (memD (VL n o w) es), .fz (iL (lft n o w d)), .no, .no, .no, .no] =
          .ok (.nx, [.fz (nD n o), .fz (nD n w), .fz (tupI d), .ow (some 0) (memD (VL n o w) es), .fz (iL (lft n o w d)), .fz (bD (if lft n o w d = [] then some [] else none)), .no, .no, .no]) := by
        generalize nD n o = O
        generalize nD n w = V
        generalize memD (VL n o w) es = M
        by_cases hl : lft n o w d = []
        · simp [hl, zero0, bD, sD]
        · have : ¬ ((lft n o w d).length : Int) = 0 := fun z => hl (List.eq_nil_of_length_eq_zero (by omega))
          simp [hl, this, bD]
      have s3 : sFor (iIt (xIf (tst (x2 gtD (xn lenD (aCons (xVar 4) (aNil))) (xConst (.int 0)))) (xCall 1 F_subsets (aCons (xVar 4) (aNil))) (xLst (aNil)))) (gN 6) (Y2_least_from (F_least_from m)) [.fz (nD n o), .fz (nD n w), .fz (tupI d), .ow (some 0) (memD (VL n o w) es), .fz (iL (lft n o w d)), .fz (bD (if lft n o w d = [] then some [] else none)), .no, .no, .no] =
          .ok (.nx, [.fz (nD n o), .fz (nD n w), .fz (tupI d), .ow (some 0) (memD (VL n o w) es2), .fz (iL (lft n o w d)), .fz (sD (Lv n o w d)), a2, .no, b2]) := by
        have e : iIt (xIf (tst (x2 gtD (xn lenD (aCons (xVar 4) (aNil))) (xConst (.int 0)))) (xCall 1 F_subsets (aCons (xVar 4) (aNil))) (xLst (aNil))) [.fz (nD n o), .fz (nD n w), .fz (tupI d), .ow (some 0) (memD (VL n o w) es), .fz (iL (lft n o w d)), .fz (bD (if lft n o w d = [] then some [] else none)), .no, .no, .no] =
            .ok ((cds n o w d).map iL, [.fz (nD n o), .fz (nD n w), .fz (tupI d), .ow (some 0) (memD (VL n o w) es), .fz (iL (lft n o w d)), .fz (bD (if lft n o w d = [] then some [] else none)), .no, .no, .no]) := by
          have su := subsets_ok (xs := lft n o w d) (by omega)
          unfold cds
          generalize bD (if lft n o w d = [] then some [] else none) = BB
          generalize nD n o = O
          generalize nD n w = V
          generalize memD (VL n o w) es = M
          by_cases hl : lft n o w d = []
          · simp [hl, zero0]
          · have this0 : lft n o w d ≠ [] := hl
            have : (0 : Int) < (lft n o w d).length := by
              have := List.length_pos_iff.mpr hl
              omega
            have this1 := List.length_pos_iff.mpr hl
            rw [if_neg hl]
            simp [this, this1, su, sD]
        simp only [sFor_ap, e, Out.bind_ok]
        exact h1
      obtain ⟨es3, hput, he3, hin⟩ : ∃ es3, dPut (es2.map (entV (VL n o w))) (tupI d) (sD (Lv n o w d)) = es3.map (entV (VL n o w)) ∧ Mem n o w es3 ∧ d ∈ es3 := by
        by_cases hm2 : d ∈ es2
        · exact ⟨es2, put_again hm2, h2, hm2⟩
        · exact ⟨es2 ++ [d], put_mem (VL n o w) hm2, h2.put hm2 (sub_of pw hd.sub), by simp⟩
      have e1 := ix_mem (VL n o w) hin
      have s4 : sSetK 3 (xVar 5) (xVar 2) [.fz (nD n o), .fz (nD n w), .fz (tupI d), .ow (some 0) (memD (VL n o w) es2), .fz (iL (lft n o w d)), .fz (sD (Lv n o w d)), a2, .no, b2] =
          .ok (.nx, [.fz (nD n o), .fz (nD n w), .fz (tupI d), .ow (some 0) (memD (VL n o w) es3), .fz (iL (lft n o w d)), .fz (sD (Lv n o w d)), a2, .no, b2]) := by
        unfold memD
        rw [← hput]
        exact setK_ok (v := sD (Lv n o w d)) (kk := tupI d) (e1 := [.fz (nD n o), .fz (nD n w), .fz (tupI d), .ow (some 0) (.dict (es2.map (entV (VL n o w)))), .fz (iL (lft n o w d)), .fz (sD (Lv n o w d)), a2, .no, b2]) (e2 := [.fz (nD n o), .fz (nD n w), .fz (tupI d), .ow (some 0) (.dict (es2.map (entV (VL n o w)))), .fz (iL (lft n o w d)), .fz (sD (Lv n o w d)), a2, .no, b2])
          (xVar_fz rfl) rfl (xVar_fz rfl) rfl (keyOk_tupI d) (by have := h2.len N; rw [List.length_map, sizeLine_eq]; omega)
      refine ⟨es3, runIO_rt (e := [.fz (nD n o), .fz (nD n w), .fz (tupI d), .ow (some 0) (memD (VL n o w) es3), .fz (iL (lft n o w d)), .fz (sD (Lv n o w d)), a2, .no, b2]) ?_ rfl, he3⟩
      show B_least_from (F_least_from m) [.fz (nD n o), .fz (nD n w), .fz (tupI d), .ow (some 0) (memD (VL n o w) es), .no, .no, .no, .no, .no] = _
      unfold B_least_from
      rw [seq_nx (f := sIf _ _ _) (e1 := [.fz (nD n o), .fz (nD n w), .fz (tupI d), .ow (some 0) (memD (VL n o w) es3), .fz (iL (lft n o w d)), .fz (sD (Lv n o w d)), a2, .no, b2]) (by rw [if_yes t, seq_nx (lf_left N _ _ _ _ _ _), seq_nx s2, seq_nx s3, s4])]
      generalize memD (VL n o w) es3 = M at *
      generalize nD n o = O
      generalize nD n w = V
      generalize iL (lft n o w d) = LL
      simp [slotC, e1]
end
end K09
set_option Elab.async false
set_option linter.all false
set_option maxRecDepth 100000
namespace K09
open PySem DP
section
variable {n : Nat} {o w : Int → List Int}
theorem mix_00 : mixF o w [] [] = o := by
  funext r
  unfold mixF
  rw [if_neg (by simp), if_neg (by simp)]
theorem Ac_nil (N : NW n o w) : Ac n o w [] := by
  unfold Ac
  rw [mix_00]
  exact N.facts.2.2.1
theorem Dn_nil : Dn n o w [] := ⟨List.nodup_nil, fun _ h => nomatch h⟩
theorem Mem_nil : Mem n o w [] := ⟨List.nodup_nil, fun _ h => nomatch h⟩
theorem a2_ok {f g : XF} {env : Ev} {x y : D} (h1 : f env = .ok (x, env)) (h2 : g env = .ok (y, env)) : aCons f (aCons g aNil) env = .ok ([x, y], env) := by
  simp only [aCons_ap, h1, h2, Out.bind_ok, aNil_ap]
theorem least_ok (N : NW n o w) : F_least_rounds [nD n o, nD n w] = .ok (sD (Lv n o w [])) := by
  have c := N.check
  have l6 := lft_len N []
  obtain ⟨es', h1, h2⟩ := least_from_ok N 9 [] [] (by omega) (Ac_nil N) Dn_nil List.Pairwise.nil Mem_nil
  have ll := Lv_len N (Ac_nil N)
  refine runB_rt (e := [.fz (nD n o), .fz (nD n w), .no]) ?_
  show B_least_rounds [.fz (nD n o), .fz (nD n w), .no] = _
  have s0 : sDrop (xCall 2 F_check_change (aCons (xVar 0) (aCons (xVar 1) (aNil)))) [.fz (nD n o), .fz (nD n w), .no] = .ok (.nx, [.fz (nD n o), .fz (nD n w), .no]) := by
    generalize nD n o = O at *
    generalize nD n w = V at *
    simp [c]
  have cl := callION_ok (n := 3) (F := F_least_from 9) (l := aCons (xVar 0) (aCons (xVar 1) (aCons (xTup (aNil)) (aNil)))) (fN := xConst (.dict [])) (env := [.fz (nD n o), .fz (nD n w), .no]) (e1 := [.fz (nD n o), .fz (nD n w), .no]) (e2 := [.fz (nD n o), .fz (nD n w), .no]) (ds := [nD n o, nD n w, tupI []]) (cc := .dict [])
    (a3_ok (xVar_fz rfl) (xVar_fz rfl) (by simp [zero0, tupI])) rfl rfl h1
  have g1 : iIt (xCallION 3 (F_least_from 9) (aCons (xVar 0) (aCons (xVar 1) (aCons (xTup (aNil)) (aNil)))) (xConst (.dict []))) [.fz (nD n o), .fz (nD n w), .no] = .ok ((Lv n o w []).map iL, [.fz (nD n o), .fz (nD n w), .no]) := by
    simp only [iIt_ap, cl, Out.bind_ok, sD, itD_l, liftO_some]
  have q := cmp_mapT (F := iL) (g := gN 2) (el := E1_least_rounds) (vs := [2]) (env := [.fz (nD n o), .fz (nD n w), .no]) (f := iL) (Lv n o w []) fun t _ => ⟨[.fz (nD n o), .fz (nD n w), .fz (iL t)], rfl, by simp [E1_least_rounds], rfl⟩
  have g2 := comp_ok (vs := [2]) g1 q (by rw [List.length_map, sizeLine_eq]; omega)
  unfold B_least_rounds
  rw [seq_nx s0]
  simp only [sRet_ap, g2, Out.bind_ok]
  rfl
/-! ### the law's own search -/
abbrev VW (n : Nat) (o w : Int → List Int) (d : List Int) : D := .int ((Lv n o w d).length : Nat)
def wD : Option (List (List Int)) → D
  | none => .none
  | some b => .int (b.length : Nat)
def RecW (n : Nat) (o w : Int → List Int) (m : Nat) (R : FIO) : Prop := ∀ (d : List Int) (es : List (List Int)), (lft n o w d).length < m → Ac n o w d → Dn n o w d → Mem n o w es →
  ∃ es', R [nD n o, nD n w, iL d] (memD (VW n o w) es) = .ok (.int ((Lv n o w d).length : Nat), memD (VW n o w) es') ∧ Mem n o w es'
theorem srt_ext {d : List Int} : ∀ r, r ∈ srtZ d ↔ r ∈ d := fun r => mem_srtZ
theorem ltI (a b : Nat) : decide (((a : Nat) : Int) + 1 < (b : Nat)) = decide (a + 1 < b) := by
  rw [Bool.eq_iff_iff, decide_eq_true_eq, decide_eq_true_eq]
  omega
theorem fw_body (N : NW n o w) {m : Nat} {R : FIO} (hR : RecW n o w m R) {d : List Int} (ha : Ac n o w d) (hd : Dn n o w d) (hm : (lft n o w d).length < m + 1) {now : List Int} (hs : now.Sublist (lft n o w d)) (best : Option (List (List Int))) {es : List (List Int)} (he : Mem n o w es) (K LL : D) (b : Sl) :
    ∃ es' b', Y2__law_fewest R [.fz (nD n o), .fz (nD n w), .fz (iL d), .ow (some 0) (memD (VW n o w) es), .fz K, .fz LL, .fz (wD best), .fz (iL now), .no, b] =
      .ok (.nx, [.fz (nD n o), .fz (nD n w), .fz (iL d), .ow (some 0) (memD (VW n o w) es'), .fz K, .fz LL, .fz (wD (pick n o w (Lv n o w) d best now)), .fz (iL now), .no, b']) ∧ Mem n o w es' := by
  have sf := lsafe_ok N.fo N.fw N.n100 d now
  have l6 := lft_len N d
  have hnl : now.length ≤ 6 := Nat.le_trans hs.length_le l6
  have dl := hd.len N
  have t : tAndF (tst (x2 neD2 (xVar 7) (xLst (aNil)))) (tst (xCall 4 F__law_safe (aCons (xVar 0) (aCons (xVar 1) (aCons (xVar 2) (aCons (xVar 7) (aNil)))))))
      [.fz (nD n o), .fz (nD n w), .fz (iL d), .ow (some 0) (memD (VW n o w) es), .fz K, .fz LL, .fz (wD best), .fz (iL now), .no, b] = .ok (okN n o w d now, [.fz (nD n o), .fz (nD n w), .fz (iL d), .ow (some 0) (memD (VW n o w) es), .fz K, .fz LL, .fz (wD best), .fz (iL now), .no, b]) := by
    unfold okN
    generalize nD n o = O at *
    generalize nD n w = V at *
    generalize memD (VW n o w) es = M
    generalize wD best = BB
    refine tand_ok ?_ fun _ => ?_
    · simp [zero0]
    · simp [sf]
  cases hk : okN n o w d now with
  | false =>
    rw [hk] at t
    refine ⟨es, b, ?_, he⟩
    unfold Y2__law_fewest
    rw [if_no t]
    have : pick n o w (Lv n o w) d best now = best := by unfold pick; rw [hk]; rfl
    rw [this]
    rfl
  | true =>
    rw [hk] at t
    have hne := (okN_ne hk).1
    have hlt := lft_lt (o := o) (w := w) (d := d) hs hne
    have hap := hd.app hs
    have hac : Ac n o w (d ++ now) := by
      have := Ac.next hk
      unfold Ac at *
      rwa [mix_ext (d' := d ++ now) (m' := []) srt_ext fun _ => Iff.rfl] at this
    rw [lft_ext srt_ext] at hlt
    obtain ⟨es2, r1, r2⟩ := hR (d ++ now) es (by omega) hac hap he
    have lx : Lv n o w (d ++ now) = Lv n o w (srtZ (d ++ now)) := Lp_ext 7 fun r => (mem_srtZ).symm
    have s1 : sSet 9 (xCallIO 3 R 3 (aCons (xVar 0) (aCons (xVar 1) (aCons (x2 addD (xVar 2) (xVar 7)) (aNil)))))
        [.fz (nD n o), .fz (nD n w), .fz (iL d), .ow (some 0) (memD (VW n o w) es), .fz K, .fz LL, .fz (wD best), .fz (iL now), .no, b] =
        .ok (.nx, [.fz (nD n o), .fz (nD n w), .fz (iL d), .ow (some 0) (memD (VW n o w) es2), .fz K, .fz LL, .fz (wD best), .fz (iL now), .no, .fz (.int ((Lv n o w (d ++ now)).length : Nat))]) := by
      have ad := add_iL d now (by omega)
      have c := callIO_ok (n := 3) (F := R) (i := 3) (l := aCons (xVar 0) (aCons (xVar 1) (aCons (x2 addD (xVar 2) (xVar 7)) (aNil))))
        (env := [.fz (nD n o), .fz (nD n w), .fz (iL d), .ow (some 0) (memD (VW n o w) es), .fz K, .fz LL, .fz (wD best), .fz (iL now), .no, b]) (e1 := [.fz (nD n o), .fz (nD n w), .fz (iL d), .ow (some 0) (memD (VW n o w) es), .fz K, .fz LL, .fz (wD best), .fz (iL now), .no, b])
        (ds := [nD n o, nD n w, iL (d ++ now)]) rfl (a3_ok (xVar_fz rfl) (xVar_fz rfl) (by
          generalize nD n o = O
          generalize nD n w = V
          generalize memD (VW n o w) es = M
          generalize wD best = BB
          simp [ad])) rfl rfl r1
      simp only [sSet_ap, c, Out.bind_ok]
      rfl
    rw [lx] at s1
    have set6 : ∀ BB : D, sSet 6 (x2 addD (xVar 9) (xConst (.int 1))) [.fz (nD n o), .fz (nD n w), .fz (iL d), .ow (some 0) (memD (VW n o w) es2), .fz K, .fz LL, .fz BB, .fz (iL now), .no, .fz (.int ((Lv n o w (srtZ (d ++ now))).length : Nat))] =
        .ok (.nx, [.fz (nD n o), .fz (nD n w), .fz (iL d), .ow (some 0) (memD (VW n o w) es2), .fz K, .fz LL, .fz (wD (some (now :: Lv n o w (srtZ (d ++ now))))), .fz (iL now), .no, .fz (.int ((Lv n o w (srtZ (d ++ now))).length : Nat))]) := fun BB => by
      have e : wD (some (now :: Lv n o w (srtZ (d ++ now)))) = .int (((Lv n o w (srtZ (d ++ now))).length : Nat) + 1 : Int) := by
        simp [wD]
      rw [e]
      generalize nD n o = O
      generalize nD n w = V
      generalize memD (VW n o w) es2 = M
      simp
    cases best with
    | none =>
      rw [pick_none hk]
      refine ⟨es2, .fz (.int ((Lv n o w (srtZ (d ++ now))).length : Nat)), ?_, r2⟩
      unfold Y2__law_fewest
      rw [if_yes t, seq_nx s1]
      rw [if_yes (e1 := [.fz (nD n o), .fz (nD n w), .fz (iL d), .ow (some 0) (memD (VW n o w) es2), .fz K, .fz LL, .fz (wD none), .fz (iL now), .no, .fz (.int ((Lv n o w (srtZ (d ++ now))).length : Nat))])]
      · exact set6 _
      · generalize nD n o = O
        generalize nD n w = V
        generalize memD (VW n o w) es2 = M
        simp [wD, isN, isNb]
    | some b0 =>
      have t2 : (tOrF (tst (x1 isN (xVar 6))) (tst (x2 ltD (x2 addD (xVar 9) (xConst (.int 1))) (xVar 6)))) [.fz (nD n o), .fz (nD n w), .fz (iL d), .ow (some 0) (memD (VW n o w) es2), .fz K, .fz LL, .fz (.int (b0.length : Nat)), .fz (iL now), .no, .fz (.int ((Lv n o w (srtZ (d ++ now))).length : Nat))] =
          .ok (decide ((Lv n o w (srtZ (d ++ now))).length + 1 < b0.length), [.fz (nD n o), .fz (nD n w), .fz (iL d), .ow (some 0) (memD (VW n o w) es2), .fz K, .fz LL, .fz (.int (b0.length : Nat)), .fz (iL now), .no, .fz (.int ((Lv n o w (srtZ (d ++ now))).length : Nat))]) := by
        rw [← ltI]
        generalize nD n o = O
        generalize nD n w = V
        generalize memD (VW n o w) es2 = M
        simp [isN, isNb]
      rw [pick_some hk]
      by_cases hlt2 : (Lv n o w (srtZ (d ++ now))).length + 1 < b0.length
      · rw [if_pos hlt2]
        rw [decide_eq_true hlt2] at t2
        refine ⟨es2, .fz (.int ((Lv n o w (srtZ (d ++ now))).length : Nat)), ?_, r2⟩
        unfold Y2__law_fewest
        rw [if_yes t, seq_nx s1]
        show sIf _ _ _ [.fz (nD n o), .fz (nD n w), .fz (iL d), .ow (some 0) (memD (VW n o w) es2), .fz K, .fz LL, .fz (.int (b0.length : Nat)), .fz (iL now), .no, .fz (.int ((Lv n o w (srtZ (d ++ now))).length : Nat))] = _
        rw [if_yes t2]
        exact set6 _
      · rw [if_neg hlt2]
        rw [decide_eq_false hlt2] at t2
        refine ⟨es2, .fz (.int ((Lv n o w (srtZ (d ++ now))).length : Nat)), ?_, r2⟩
        unfold Y2__law_fewest
        rw [if_yes t, seq_nx s1]
        show sIf _ _ _ [.fz (nD n o), .fz (nD n w), .fz (iL d), .ow (some 0) (memD (VW n o w) es2), .fz K, .fz LL, .fz (.int (b0.length : Nat)), .fz (iL now), .no, .fz (.int ((Lv n o w (srtZ (d ++ now))).length : Nat))] = _
        rw [if_no t2]
        rfl
theorem fw_loop (N : NW n o w) {m : Nat} {R : FIO} (hR : RecW n o w m R) {d : List Int} (ha : Ac n o w d) (hd : Dn n o w d) (hm : (lft n o w d).length < m + 1) (K LL : D) : ∀ (C : List (List Int)) (best : Option (List (List Int))) (es : List (List Int)) (a b : Sl), (∀ now ∈ C, now.Sublist (lft n o w d)) → Mem n o w es →
    ∃ es' a' b', forL (gN 7) (Y2__law_fewest R) (C.map iL) [.fz (nD n o), .fz (nD n w), .fz (iL d), .ow (some 0) (memD (VW n o w) es), .fz K, .fz LL, .fz (wD best), a, .no, b] =
      .ok (.nx, [.fz (nD n o), .fz (nD n w), .fz (iL d), .ow (some 0) (memD (VW n o w) es'), .fz K, .fz LL, .fz (wD (C.foldl (pick n o w (Lv n o w) d) best)), a', .no, b']) ∧ Mem n o w es'
  | [], best, es, a, b, _, he => ⟨es, a, b, rfl, he⟩
  | now :: C, best, es, a, b, hC, he => by
    obtain ⟨es1, b1, h1, h2⟩ := fw_body N hR ha hd hm (hC now List.mem_cons_self) best he K LL b
    obtain ⟨es2, a2, b2, h4, h5⟩ := fw_loop N hR ha hd hm K LL C (pick n o w (Lv n o w) d best now) es1 (.fz (iL now)) b1 (fun x hx => hC x (List.mem_cons_of_mem _ hx)) h2
    refine ⟨es2, a2, b2, ?_, h5⟩
    rw [List.map_cons, List.foldl_cons]
    conv => lhs; unfold forL
    simp only [gN_ap]
    show ((Y2__law_fewest R [.fz (nD n o), .fz (nD n w), .fz (iL d), .ow (some 0) (memD (VW n o w) es), .fz K, .fz LL, .fz (wD best), .fz (iL now), .no, b]).bind _) = _
    rw [h1]
    exact h4
theorem lft_filter (d : List Int) : (R n).filter (fun r => decide (o r ≠ w r) && decide (r ∉ d)) = lft n o w d := by
  unfold lft chg
  rw [List.filter_filter]
  refine List.filter_congr fun x _ => ?_
  rw [Bool.and_comm]
theorem subs_nil : subs [] = [[]] := by simp [subs]
theorem fold_all (N : NW n o w) {d : List Int} (ha : Ac n o w d) : (subs (lft n o w d)).foldl (pick n o w (Lv n o w) d) (if lft n o w d = [] then some [] else none) = some (Lv n o w d) := by
  have := best_Lv N ha
  unfold bestV cds at this
  by_cases hl : lft n o w d = []
  · rw [hl, subs_nil, Lv_nil N hl]
    have : okN n o w d [] = false := by unfold okN; simp
    simp [pick, this]
  · rw [if_neg hl] at this ⊢
    rw [if_neg hl] at this
    exact this
theorem fewest_ok (N : NW n o w) : ∀ m : Nat, RecW n o w m (F__law_fewest m)
  | 0 => fun d es h => absurd h (Nat.not_lt_zero _)
  | m + 1 => fun d es h ha hd he => by
    have hR := fewest_ok N m
    have hv : VW n o w (srtZ d) = .int ((Lv n o w d).length : Nat) := by
      show PyData.int ((Lp n o w 7 (srtZ d)).length : Nat) = _
      rw [Lp_ext 7 srt_ext]
    have e0 := nin_mem (VW n o w) (srtZ d) es
    have s0 : sSet 4 (xn tupleD (aCons (xn sortedD2 (aCons (xVar 2) (aNil))) (aNil))) [.fz (nD n o), .fz (nD n w), .fz (iL d), .ow (some 0) (memD (VW n o w) es), .no, .no, .no, .no, .no, .no] = .ok (.nx, [.fz (nD n o), .fz (nD n w), .fz (iL d), .ow (some 0) (memD (VW n o w) es), .fz (tupI (srtZ d)), .no, .no, .no, .no, .no]) := by
      generalize nD n o = O
      generalize nD n w = V
      generalize memD (VW n o w) es = M
      simp
    have t : tst (x2B ninD2 (xVar 4) 3) [.fz (nD n o), .fz (nD n w), .fz (iL d), .ow (some 0) (memD (VW n o w) es), .fz (tupI (srtZ d)), .no, .no, .no, .no, .no] = .ok (decide (srtZ d ∉ es), [.fz (nD n o), .fz (nD n w), .fz (iL d), .ow (some 0) (memD (VW n o w) es), .fz (tupI (srtZ d)), .no, .no, .no, .no, .no]) := by
      generalize memD (VW n o w) es = M at *
      generalize nD n o = O
      generalize nD n w = V
      generalize tupI (srtZ d) = T at *
      simp [slotC, e0]
    by_cases hm : srtZ d ∈ es
    · rw [decide_eq_false (fun z => z hm)] at t
      have e1 := ix_mem (VW n o w) hm
      rw [hv] at e1
      refine ⟨es, runIO_rt (e := [.fz (nD n o), .fz (nD n w), .fz (iL d), .ow (some 0) (memD (VW n o w) es), .fz (tupI (srtZ d)), .no, .no, .no, .no, .no]) ?_ rfl, he⟩
      show B__law_fewest (F__law_fewest m) [.fz (nD n o), .fz (nD n w), .fz (iL d), .ow (some 0) (memD (VW n o w) es), .no, .no, .no, .no, .no, .no] = _
      unfold B__law_fewest
      rw [seq_nx s0, seq_nx (f := sIf _ _ _) (e1 := [.fz (nD n o), .fz (nD n w), .fz (iL d), .ow (some 0) (memD (VW n o w) es), .fz (tupI (srtZ d)), .no, .no, .no, .no, .no]) (by rw [if_no t]; rfl)]
      generalize memD (VW n o w) es = M at *
      generalize nD n o = O
      generalize nD n w = V
      generalize tupI (srtZ d) = T at *
      simp [slotC, e1]
    · rw [decide_eq_true hm] at t
      have l6 := lft_len N d
      obtain ⟨es2, a2, b2, h1, h2⟩ := fw_loop N hR ha hd (show (lft n o w d).length < m + 1 from h) (tupI (srtZ d)) (iL (lft n o w d)) (subs (lft n o w d)) (if lft n o w d = [] then some [] else none) es .no .no (fun now hn => subs_sub hn) he
      rw [fold_all N ha] at h1
      have s1 : sSet 5 (xComp (iIt (xn sortedD2 (aCons (xVar 0) (aNil)))) (gN 8) (tAndF (tst (x2 neD2 (x2 ixD (xVar 0) (xVar 8)) (x2 ixD (xVar 1) (xVar 8)))) (tst (x2 ninD2 (xVar 8) (xVar 2)))) (E1__law_fewest (F__law_fewest m)) [8])
          [.fz (nD n o), .fz (nD n w), .fz (iL d), .ow (some 0) (memD (VW n o w) es), .fz (tupI (srtZ d)), .no, .no, .no, .no, .no] = .ok (.nx, [.fz (nD n o), .fz (nD n w), .fz (iL d), .ow (some 0) (memD (VW n o w) es), .fz (tupI (srtZ d)), .fz (iL (lft n o w d)), .no, .no, .no, .no]) := by
        generalize memD (VW n o w) es = M
        generalize tupI (srtZ d) = T
        have q := cmp_map (F := PyData.int) (g := gN 8) (ts := tAndF (tst (x2 neD2 (x2 ixD (xVar 0) (xVar 8)) (x2 ixD (xVar 1) (xVar 8)))) (tst (x2 ninD2 (xVar 8) (xVar 2)))) (el := E1__law_fewest (F__law_fewest m)) (vs := [8]) (env := [.fz (nD n o), .fz (nD n w), .fz (iL d), .ow (some 0) M, .fz T, .no, .no, .no, .no, .no])
          (b := fun r => decide (o r ≠ w r) && decide (r ∉ d)) (f := fun r => .int r) (R n) fun r hr => ⟨[.fz (nD n o), .fz (nD n w), .fz (iL d), .ow (some 0) M, .fz T, .no, .no, .no, .fz (.int r), .no], rfl, by
            have e1 := ix_nD (f := o) hr
            have e2 := ix_nD (f := w) hr
            generalize nD n o = O at *
            generalize nD n w = V at *
            refine tand_ok ?_ fun _ => ?_
            · simp [e1, e2]
            · simp, fun _ => by simp [E1__law_fewest], rfl⟩
        rw [lft_filter] at q
        have g1 : iIt (xn sortedD2 (aCons (xVar 0) (aNil))) [.fz (nD n o), .fz (nD n w), .fz (iL d), .ow (some 0) M, .fz T, .no, .no, .no, .no, .no] = .ok ((R n).map .int, [.fz (nD n o), .fz (nD n w), .fz (iL d), .ow (some 0) M, .fz T, .no, .no, .no, .no, .no]) := by simp [sorted_nD]
        have g2 := comp_ok (vs := [8]) g1 q (by rw [List.length_map, sizeLine_eq]; omega)
        simp only [sSet_ap, g2, Out.bind_ok]
        rfl
      have s2 : sSet 6 (x2 ixD (xLst (aCons (xConst (.int 0)) (aCons (xConst .none) (aNil)))) (xn intD (aCons (x2 neD2 (xVar 5) (xLst (aNil))) (aNil)))) [.fz (nD n o), .fz (nD n w), .fz (iL d), .ow (some 0) (memD (VW n o w) es), .fz (tupI (srtZ d)), .fz (iL (lft n o w d)), .no, .no, .no, .no] =
          .ok (.nx, [.fz (nD n o), .fz (nD n w), .fz (iL d), .ow (some 0) (memD (VW n o w) es), .fz (tupI (srtZ d)), .fz (iL (lft n o w d)), .fz (wD (if lft n o w d = [] then some [] else none)), .no, .no, .no]) := by
        have i1 : intD [.bool true] = some (.int 1) := rfl
        have i0 : intD [.bool false] = some (.int 0) := rfl
        have a1 : ∀ x y : D, L2.atI [x, y] 1 = some y := fun _ _ => rfl
        have a0 : ∀ x y : D, L2.atI [x, y] 0 = some x := fun _ _ => rfl
        generalize nD n o = O
        generalize nD n w = V
        generalize memD (VW n o w) es = M
        generalize tupI (srtZ d) = T
        by_cases hl : lft n o w d = []
        · simp [hl, zero0, two0, i0, a0, wD]
        · simp [hl, zero0, two0, i1, a1, wD]
      have s3 : sFor (iIt (xCall 1 F__law_sets (aCons (xVar 5) (aNil)))) (gN 7) (Y2__law_fewest (F__law_fewest m)) [.fz (nD n o), .fz (nD n w), .fz (iL d), .ow (some 0) (memD (VW n o w) es), .fz (tupI (srtZ d)), .fz (iL (lft n o w d)), .fz (wD (if lft n o w d = [] then some [] else none)), .no, .no, .no] =
          .ok (.nx, [.fz (nD n o), .fz (nD n w), .fz (iL d), .ow (some 0) (memD (VW n o w) es2), .fz (tupI (srtZ d)), .fz (iL (lft n o w d)), .fz (.int ((Lv n o w d).length : Nat)), a2, .no, b2]) := by
        have e : iIt (xCall 1 F__law_sets (aCons (xVar 5) (aNil))) [.fz (nD n o), .fz (nD n w), .fz (iL d), .ow (some 0) (memD (VW n o w) es), .fz (tupI (srtZ d)), .fz (iL (lft n o w d)), .fz (wD (if lft n o w d = [] then some [] else none)), .no, .no, .no] =
            .ok ((subs (lft n o w d)).map iL, [.fz (nD n o), .fz (nD n w), .fz (iL d), .ow (some 0) (memD (VW n o w) es), .fz (tupI (srtZ d)), .fz (iL (lft n o w d)), .fz (wD (if lft n o w d = [] then some [] else none)), .no, .no, .no]) := by
          have su := lsets_ok (xs := lft n o w d) (by omega)
          generalize wD (if lft n o w d = [] then some [] else none) = BB
          generalize nD n o = O
          generalize nD n w = V
          generalize memD (VW n o w) es = M
          generalize tupI (srtZ d) = T
          simp [su, sD]
        simp only [sFor_ap, e, Out.bind_ok]
        exact h1
      obtain ⟨es3, hput, he3, hin⟩ : ∃ es3, dPut (es2.map (entV (VW n o w))) (tupI (srtZ d)) (VW n o w (srtZ d)) = es3.map (entV (VW n o w)) ∧ Mem n o w es3 ∧ srtZ d ∈ es3 := by
        by_cases hm2 : srtZ d ∈ es2
        · exact ⟨es2, put_again hm2, h2, hm2⟩
        · exact ⟨es2 ++ [srtZ d], put_mem (VW n o w) hm2, h2.put hm2 hd.srt.2, by simp⟩
      rw [hv] at hput
      have e1 := ix_mem (VW n o w) hin
      rw [hv] at e1
      have s4 : sSetK 3 (xVar 6) (xVar 4) [.fz (nD n o), .fz (nD n w), .fz (iL d), .ow (some 0) (memD (VW n o w) es2), .fz (tupI (srtZ d)), .fz (iL (lft n o w d)), .fz (.int ((Lv n o w d).length : Nat)), a2, .no, b2] =
          .ok (.nx, [.fz (nD n o), .fz (nD n w), .fz (iL d), .ow (some 0) (memD (VW n o w) es3), .fz (tupI (srtZ d)), .fz (iL (lft n o w d)), .fz (.int ((Lv n o w d).length : Nat)), a2, .no, b2]) := by
        unfold memD
        rw [← hput]
        exact setK_ok (v := .int ((Lv n o w d).length : Nat)) (kk := tupI (srtZ d)) (e1 := [.fz (nD n o), .fz (nD n w), .fz (iL d), .ow (some 0) (.dict (es2.map (entV (VW n o w)))), .fz (tupI (srtZ d)), .fz (iL (lft n o w d)), .fz (.int ((Lv n o w d).length : Nat)), a2, .no, b2]) (e2 := [.fz (nD n o), .fz (nD n w), .fz (iL d), .ow (some 0) (.dict (es2.map (entV (VW n o w)))), .fz (tupI (srtZ d)), .fz (iL (lft n o w d)), .fz (.int ((Lv n o w d).length : Nat)), a2, .no, b2])
          (xVar_fz rfl) rfl (xVar_fz rfl) rfl (keyOk_tupI _) (by have := h2.len N; rw [List.length_map, sizeLine_eq]; omega)
      refine ⟨es3, runIO_rt (e := [.fz (nD n o), .fz (nD n w), .fz (iL d), .ow (some 0) (memD (VW n o w) es3), .fz (tupI (srtZ d)), .fz (iL (lft n o w d)), .fz (.int ((Lv n o w d).length : Nat)), a2, .no, b2]) ?_ rfl, he3⟩
      show B__law_fewest (F__law_fewest m) [.fz (nD n o), .fz (nD n w), .fz (iL d), .ow (some 0) (memD (VW n o w) es), .no, .no, .no, .no, .no, .no] = _
      unfold B__law_fewest
      rw [seq_nx s0, seq_nx (f := sIf _ _ _) (e1 := [.fz (nD n o), .fz (nD n w), .fz (iL d), .ow (some 0) (memD (VW n o w) es3), .fz (tupI (srtZ d)), .fz (iL (lft n o w d)), .fz (.int ((Lv n o w d).length : Nat)), a2, .no, b2]) (by rw [if_yes t, seq_nx s1, seq_nx s2, seq_nx s3, s4])]
      generalize memD (VW n o w) es3 = M at *
      generalize nD n o = O
      generalize nD n w = V
      generalize tupI (srtZ d) = T at *
      generalize iL (lft n o w d) = LL
      simp [slotC, e1]
end
end K09
set_option Elab.async false
set_option linter.all false
set_option maxRecDepth 100000
namespace K09
open PySem DP
section
variable {n : Nat} {o w : Int → List Int}
theorem x2_ok {op : D → D → Option D} {f g : XF} {env e1 e2 : Ev} {x y z : D} (h1 : f env = .ok (x, e1)) (h2 : g e1 = .ok (y, e2)) (h3 : op x y = some z) : x2 op f g env = .ok (z, e2) := by
  unfold x2
  rw [h1]
  simp only [Out.bind_ok, h2, h3, liftO_some]
theorem tst_ok2 {f : XF} {env e1 : Ev} {b : Bool} (h1 : f env = .ok (.bool b, e1)) : tst f env = .ok (b, e1) := by
  unfold tst
  rw [h1]
  rfl
/-- the environment of the law's own search -/
abbrev EL (n : Nat) (o w : Int → List Int) (es : List (List Int)) (d : List Int) (rows : List (List Int)) (a b c : Sl) (e : Sl) : Ev := [.fz (nD n o), .fz (nD n w), .ow (some 0) (memD (VW n o w) es), .fz (iL d), .ow none (sD rows), a, b, c, e]
theorem few_call (N : NW n o w) {d x : List Int} (ha : Ac n o w x) (hd : Dn n o w x) {es : List (List Int)} (he : Mem n o w es) (rows : List (List Int)) (a b c e : Sl) {f : XF} (hf : ∀ es, f (EL n o w es d rows a b c e) = .ok (iL x, EL n o w es d rows a b c e)) :
    ∃ es', xCallIO 3 (F__law_fewest 9) 2 (aCons (xVar 0) (aCons (xVar 1) (aCons f (aNil)))) (EL n o w es d rows a b c e) = .ok (.int ((Lv n o w x).length : Nat), EL n o w es' d rows a b c e) ∧ Mem n o w es' := by
  have l6 := lft_len N x
  obtain ⟨es', h1, h2⟩ := fewest_ok N 9 x es (by omega) ha hd he
  refine ⟨es', ?_, h2⟩
  have c := callIO_ok (n := 3) (F := F__law_fewest 9) (i := 2) (l := aCons (xVar 0) (aCons (xVar 1) (aCons f (aNil)))) (env := EL n o w es d rows a b c e) (e1 := EL n o w es d rows a b c e) (ds := [nD n o, nD n w, iL x]) rfl (a3_ok (xVar_fz rfl) (xVar_fz rfl) (hf es)) rfl rfl h1
  exact c
def goodB (n : Nat) (o w : Int → List Int) (d now : List Int) : Bool := okN n o w d now && decide ((Lv n o w (d ++ now)).length + 1 = (Lv n o w d).length)
theorem ll_test (N : NW n o w) {d now : List Int} (ha : Ac n o w d) (hd : Dn n o w d) (hs : now.Sublist (lft n o w d)) {es : List (List Int)} (he : Mem n o w es) (rows : List (List Int)) (a b : Sl) :
    ∃ es', tAndF (tst (x2 neD2 (xVar 8) (xLst (aNil)))) (tAndF (tst (xCall 4 F__law_safe (aCons (xVar 0) (aCons (xVar 1) (aCons (xVar 3) (aCons (xVar 8) (aNil))))))) (tst (x2 eqD2 (xCallIO 3 (F__law_fewest 9) 2 (aCons (xVar 0) (aCons (xVar 1) (aCons (x2 addD (xVar 3) (xVar 8)) (aNil))))) (x2 subD (xCallIO 3 (F__law_fewest 9) 2 (aCons (xVar 0) (aCons (xVar 1) (aCons (xVar 3) (aNil))))) (xConst (.int 1))))))
      (EL n o w es d rows a b .no (.fz (iL now))) = .ok (goodB n o w d now, EL n o w es' d rows a b .no (.fz (iL now))) ∧ Mem n o w es' := by
  have sf := lsafe_ok N.fo N.fw N.n100 d now
  have l6 := lft_len N d
  have hnl : now.length ≤ 6 := Nat.le_trans hs.length_le l6
  have dl := hd.len N
  have ad := add_iL d now (by omega)
  have g1 : tst (x2 neD2 (xVar 8) (xLst (aNil))) (EL n o w es d rows a b .no (.fz (iL now))) = .ok (decide (now ≠ []), EL n o w es d rows a b .no (.fz (iL now))) := by
    unfold EL
    generalize nD n o = O
    generalize nD n w = V
    generalize memD (VW n o w) es = M
    simp [zero0]
  have g2 : tst (xCall 4 F__law_safe (aCons (xVar 0) (aCons (xVar 1) (aCons (xVar 3) (aCons (xVar 8) (aNil)))))) (EL n o w es d rows a b .no (.fz (iL now))) = .ok (!cyc n (mixF o w d now), EL n o w es d rows a b .no (.fz (iL now))) := by
    unfold EL
    generalize nD n o = O at *
    generalize nD n w = V at *
    generalize memD (VW n o w) es = M
    simp [sf]
  cases hk : okN n o w d now with
  | false =>
    refine ⟨es, ?_, he⟩
    unfold goodB
    rw [hk, Bool.false_and]
    unfold okN at hk
    unfold tAndF
    rw [g1]
    cases hn : decide (now ≠ []) with
    | false => rfl
    | true =>
      rw [hn, Bool.true_and] at hk
      simp only [Out.bind_ok, if_true, g2, hk, Bool.false_eq_true, if_false]
  | true =>
    have hne := (okN_ne hk).1
    have hap := hd.app hs
    have hac : Ac n o w (d ++ now) := by
      have := Ac.next hk
      unfold Ac at *
      rwa [mix_ext (d' := d ++ now) (m' := []) srt_ext fun _ => Iff.rfl] at this
    obtain ⟨es1, c1, m1⟩ := few_call N hac hap he rows a b .no (.fz (iL now)) (d := d) (f := x2 addD (xVar 3) (xVar 8)) (fun es => by
      unfold EL
      generalize nD n o = O
      generalize nD n w = V
      generalize memD (VW n o w) es = M
      simp [ad])
    obtain ⟨es2, c2, m2⟩ := few_call N ha hd m1 rows a b .no (.fz (iL now)) (d := d) (f := xVar 3) (fun es => xVar_fz rfl)
    refine ⟨es2, ?_, m2⟩
    unfold goodB
    rw [hk, Bool.true_and]
    obtain ⟨hk1, hk2⟩ := okN_ne hk
    unfold tAndF
    rw [g1, decide_eq_true hk1]
    simp only [Out.bind_ok, if_true, g2, hk2, Bool.not_false]
    rw [tst_ok2 (x2_ok c1 (x2_ok c2 rfl (sub_int _ _)) (eq2_int _ _))]
    congr 2
    rw [Bool.eq_iff_iff, decide_eq_true_eq, decide_eq_true_eq]
    omega
theorem ll_good (N : NW n o w) {d : List Int} (ha : Ac n o w d) (hd : Dn n o w d) (rows : List (List Int)) (a b : Sl) : ∀ (C : List (List Int)) (es : List (List Int)), (∀ now ∈ C, now.Sublist (lft n o w d)) → Mem n o w es →
    ∃ es', cmpL (gN 8) (tAndF (tst (x2 neD2 (xVar 8) (xLst (aNil)))) (tAndF (tst (xCall 4 F__law_safe (aCons (xVar 0) (aCons (xVar 1) (aCons (xVar 3) (aCons (xVar 8) (aNil))))))) (tst (x2 eqD2 (xCallIO 3 (F__law_fewest 9) 2 (aCons (xVar 0) (aCons (xVar 1) (aCons (x2 addD (xVar 3) (xVar 8)) (aNil))))) (x2 subD (xCallIO 3 (F__law_fewest 9) 2 (aCons (xVar 0) (aCons (xVar 1) (aCons (xVar 3) (aNil))))) (xConst (.int 1))))))) (E2__law_least) [8] (C.map iL) (EL n o w es d rows a b .no .no) =
      .ok ((C.filter (goodB n o w d)).map iL, EL n o w es' d rows a b .no .no) ∧ Mem n o w es'
  | [], es, _, he => ⟨es, rfl, he⟩
  | now :: C, es, hC, he => by
    obtain ⟨es1, h1, h2⟩ := ll_test N ha hd (hC now List.mem_cons_self) he rows a b
    obtain ⟨es2, h3, h4⟩ := ll_good N ha hd rows a b C es1 (fun x hx => hC x (List.mem_cons_of_mem _ hx)) h2
    refine ⟨es2, ?_, h4⟩
    rw [List.map_cons]
    unfold cmpL
    have e0 : gN 8 (iL now) (EL n o w es d rows a b .no .no) = some (EL n o w es d rows a b .no (.fz (iL now))) := rfl
    rw [e0]
    simp only
    rw [h1]
    simp only [Out.bind_ok]
    have wz : wipeE (EL n o w es1 d rows a b .no (.fz (iL now))) [8] = EL n o w es1 d rows a b .no .no := rfl
    cases hg : goodB n o w d now with
    | false =>
      simp only [Bool.false_eq_true, if_false]
      rw [wz, h3, List.filter_cons_of_neg (by rw [hg]; decide)]
    | true =>
      have el : E2__law_least (EL n o w es1 d rows a b .no (.fz (iL now))) = .ok (iL now, EL n o w es1 d rows a b .no (.fz (iL now))) := xVar_fz rfl
      simp only [if_true, el, Out.bind_ok]
      rw [wz, h3, List.filter_cons_of_pos hg]
      rfl
theorem ll_left (N : NW n o w) (d : List Int) (es rows : List (List Int)) (a b : Sl) : sSet 5 (xComp (iIt (xn sortedD2 (aCons (xVar 0) (aNil)))) (gN 7) (tAndF (tst (x2 neD2 (x2 ixD (xVar 0) (xVar 7)) (x2 ixD (xVar 1) (xVar 7)))) (tst (x2 ninD2 (xVar 7) (xVar 3)))) (E1__law_least) [7]) (EL n o w es d rows a b .no .no) = .ok (.nx, EL n o w es d rows (.fz (iL (lft n o w d))) b .no .no) := by
  unfold EL
  generalize memD (VW n o w) es = M
  have q := cmp_map (F := PyData.int) (g := gN 7) (ts := tAndF (tst (x2 neD2 (x2 ixD (xVar 0) (xVar 7)) (x2 ixD (xVar 1) (xVar 7)))) (tst (x2 ninD2 (xVar 7) (xVar 3)))) (el := E1__law_least) (vs := [7]) (env := [.fz (nD n o), .fz (nD n w), .ow (some 0) M, .fz (iL d), .ow none (sD rows), a, b, .no, .no])
    (b := fun r => decide (o r ≠ w r) && decide (r ∉ d)) (f := fun r => .int r) (R n) fun r hr => ⟨[.fz (nD n o), .fz (nD n w), .ow (some 0) M, .fz (iL d), .ow none (sD rows), a, b, .fz (.int r), .no], rfl, by
      have e1 := ix_nD (f := o) hr
      have e2 := ix_nD (f := w) hr
      generalize nD n o = O at *
      generalize nD n w = V at *
      refine tand_ok ?_ fun _ => ?_
      · simp [e1, e2]
      · simp, fun _ => by simp [E1__law_least], rfl⟩
  rw [lft_filter] at q
  have l6 := lft_len N d
  have g1 : iIt (xn sortedD2 (aCons (xVar 0) (aNil))) [.fz (nD n o), .fz (nD n w), .ow (some 0) M, .fz (iL d), .ow none (sD rows), a, b, .no, .no] = .ok ((R n).map .int, [.fz (nD n o), .fz (nD n w), .ow (some 0) M, .fz (iL d), .ow none (sD rows), a, b, .no, .no]) := by simp [sorted_nD]
  have g2 := comp_ok (vs := [7]) g1 q (by rw [List.length_map, sizeLine_eq]; omega)
  simp only [sSet_ap, g2, Out.bind_ok]
  rfl
theorem head_filter {α : Type} {p : α → Bool} {l : List α} {a : α} (h : l.find? p = some a) : ∃ t, l.filter p = a :: t := by
  have e : (l.filter p).head? = some a := by rw [List.head?_filter]; exact h
  cases q : l.filter p with
  | nil => rw [q] at e; cases e
  | cons x t => rw [q] at e; cases e; exact ⟨t, rfl⟩
theorem ll_loop (N : NW n o w) : ∀ (k : Nat) (d : List Int) (es rows : List (List Int)) (a b : Sl), (lft n o w d).length < k → rows.length + (lft n o w d).length ≤ 6 → Ac n o w d → Dn n o w d → Mem n o w es →
    ∃ es' d' a' b', whL (tst (x2 gtD (xCallIO 3 (F__law_fewest 9) 2 (aCons (xVar 0) (aCons (xVar 1) (aCons (xVar 3) (aNil))))) (xConst (.int 0)))) Y3__law_least k (EL n o w es d rows a b .no .no) = .ok (.nx, EL n o w es' d' (rows ++ Lv n o w d) a' b' .no .no) ∧ Mem n o w es'
  | 0, _, _, _, _, _, h, _, _, _, _ => absurd h (Nat.not_lt_zero _)
  | k + 1, d, es, rows, a, b, h, hz, ha, hd, he => by
    obtain ⟨es1, c1, m1⟩ := few_call N ha hd he rows a b .no .no (d := d) (f := xVar 3) (fun es => xVar_fz rfl)
    have l6 := lft_len N d
    have t0 : tst (x2 gtD (xCallIO 3 (F__law_fewest 9) 2 (aCons (xVar 0) (aCons (xVar 1) (aCons (xVar 3) (aNil))))) (xConst (.int 0))) (EL n o w es d rows a b .no .no) = .ok (decide ((0 : Int) < ((Lv n o w d).length : Nat)), EL n o w es1 d rows a b .no .no) := by
      exact tst_ok2 (x2_ok c1 rfl (gt_int _ _))
    by_cases hl : lft n o w d = []
    · rw [Lv_nil N hl] at t0 ⊢
      rw [List.append_nil]
      exact ⟨es1, d, a, b, wh_no t0, m1⟩
    · obtain ⟨now, h1, h2, h3, h4, h5⟩ := (Lv_cons N ha hl).2.ex
      have hs := subs_sub h1
      obtain ⟨k1, k2⟩ := okN_ne h2
      have hlt := lft_lt (o := o) (w := w) (d := d) hs k1
      rw [lft_ext srt_ext] at hlt
      have lx : Lv n o w (d ++ now) = Lv n o w (srtZ (d ++ now)) := Lp_ext 7 fun r => (mem_srtZ).symm
      have ll : (Lv n o w d).length = (Lv n o w (d ++ now)).length + 1 := by rw [h3, lx, List.length_cons]
      have hap := hd.app hs
      have hac : Ac n o w (d ++ now) := by
        have := Ac.next h2
        unfold Ac at *
        rwa [mix_ext (d' := d ++ now) (m' := []) srt_ext fun _ => Iff.rfl] at this
      rw [decide_eq_true (by rw [ll]; omega)] at t0
      obtain ⟨es2, g1, m2⟩ := ll_good N ha hd rows (.fz (iL (lft n o w d))) b (subs (lft n o w d)) es1 (fun x hx => subs_sub hx) m1
      have eqB : (subs (lft n o w d)).find? (goodB n o w d) = some now := by
        have e : (fun c => okN n o w d c && decide ((Lv n o w (srtZ (d ++ c))).length = (Lv n o w (srtZ (d ++ now))).length)) = goodB n o w d := by
          funext c
          unfold goodB
          have lc : Lv n o w (d ++ c) = Lv n o w (srtZ (d ++ c)) := Lp_ext 7 fun r => (mem_srtZ).symm
          rw [ll, lc, lx]
          congr 1
          rw [Bool.eq_iff_iff, decide_eq_true_eq, decide_eq_true_eq]
          omega
        rw [← e]
        exact h5
      obtain ⟨tl, ht⟩ := head_filter eqB
      rw [ht] at g1
      have tlen : (now :: tl).length ≤ 512 := by
        rw [← ht]
        have q1 : ((subs (lft n o w d)).filter (goodB n o w d)).length ≤ (subs (lft n o w d)).length := List.length_filter_le _ _
        have q2 : (subs (lft n o w d)).length ≤ 512 := by
          unfold subs
          rw [List.length_mergeSort, grow_foldl_len]
          have := pow6 (k := (lft n o w d).length) (by omega)
          simp; omega
        omega
      have s2 : sSet 6 (xComp (iIt (xCall 1 F__law_sets (aCons (xVar 5) (aNil)))) (gN 8) (tAndF (tst (x2 neD2 (xVar 8) (xLst (aNil)))) (tAndF (tst (xCall 4 F__law_safe (aCons (xVar 0) (aCons (xVar 1) (aCons (xVar 3) (aCons (xVar 8) (aNil))))))) (tst (x2 eqD2 (xCallIO 3 (F__law_fewest 9) 2 (aCons (xVar 0) (aCons (xVar 1) (aCons (x2 addD (xVar 3) (xVar 8)) (aNil))))) (x2 subD (xCallIO 3 (F__law_fewest 9) 2 (aCons (xVar 0) (aCons (xVar 1) (aCons (xVar 3) (aNil))))) (xConst (.int 1))))))) (E2__law_least) [8])
          (EL n o w es1 d rows (.fz (iL (lft n o w d))) b .no .no) = .ok (.nx, EL n o w es2 d rows (.fz (iL (lft n o w d))) (.fz (sD (now :: tl))) .no .no) := by
        have su := lsets_ok (xs := lft n o w d) (by omega)
        have e1 : iIt (xCall 1 F__law_sets (aCons (xVar 5) (aNil))) (EL n o w es1 d rows (.fz (iL (lft n o w d))) b .no .no) = .ok ((subs (lft n o w d)).map iL, EL n o w es1 d rows (.fz (iL (lft n o w d))) b .no .no) := by
          unfold EL
          generalize nD n o = O
          generalize nD n w = V
          generalize memD (VW n o w) es1 = M
          simp [su, sD]
        have g2 := comp_ok (vs := [8]) e1 g1 (by rw [List.length_map, sizeLine_eq]; omega)
        simp only [sSet_ap, g2, Out.bind_ok]
        rfl
      have ix0 : ixD (sD (now :: tl)) (.int 0) = some (iL now) := by
        show L2.atI ((now :: tl).map iL) 0 = _
        unfold L2.atI L2.ixN
        rw [if_pos (Int.le_refl 0), if_pos (by rw [List.length_map, List.length_cons]; omega)]
        rfl
      have s3 : sDrop (xMutL 4 opApp (aCons (x2 ixD (xVar 6) (xConst (.int 0))) (aNil))) (EL n o w es2 d rows (.fz (iL (lft n o w d))) (.fz (sD (now :: tl))) .no .no) = .ok (.nx, EL n o w es2 d (rows ++ [now]) (.fz (iL (lft n o w d))) (.fz (sD (now :: tl))) .no .no) := by
        have ap : opApp (rows.map iL) [iL now] = some (.none, rows.map iL ++ [iL now]) := app_small (by rw [List.length_map]; omega)
        have e2 : sD (rows ++ [now]) = .list (rows.map iL ++ [iL now]) := by unfold sD; rw [List.map_append]; rfl
        unfold EL
        rw [e2]
        have e3 : sD rows = .list (rows.map iL) := rfl
        rw [e3]
        generalize rows.map iL = S at *
        generalize sD (now :: tl) = G at *
        generalize iL (lft n o w d) = LL
        generalize nD n o = O
        generalize nD n w = V
        generalize memD (VW n o w) es2 = M
        simp [ix0, ap]
      have s4 : sSet 3 (x2 addD (xVar 3) (x2 ixD (xVar 6) (xConst (.int 0)))) (EL n o w es2 d (rows ++ [now]) (.fz (iL (lft n o w d))) (.fz (sD (now :: tl))) .no .no) = .ok (.nx, EL n o w es2 (d ++ now) (rows ++ [now]) (.fz (iL (lft n o w d))) (.fz (sD (now :: tl))) .no .no) := by
        have dl := hd.len N
        have hnl : now.length ≤ 6 := Nat.le_trans hs.length_le l6
        have ad := add_iL d now (by omega)
        unfold EL
        generalize sD (rows ++ [now]) = S at *
        generalize sD (now :: tl) = G at *
        generalize iL (lft n o w d) = LL
        generalize nD n o = O
        generalize nD n w = V
        generalize memD (VW n o w) es2 = M
        simp [ix0, ad]
      have body : Y3__law_least (EL n o w es1 d rows a b .no .no) = .ok (.nx, EL n o w es2 (d ++ now) (rows ++ [now]) (.fz (iL (lft n o w d))) (.fz (sD (now :: tl))) .no .no) := by
        unfold Y3__law_least
        rw [seq_nx (ll_left N d es1 rows a b), seq_nx s2, seq_nx s3, s4]
      obtain ⟨es3, d', a', b', i1, i2⟩ := ll_loop N k (d ++ now) es2 (rows ++ [now]) (.fz (iL (lft n o w d))) (.fz (sD (now :: tl))) (by omega) (by rw [List.length_append, List.length_singleton]; omega) hac hap m2
      refine ⟨es3, d', a', b', ?_, i2⟩
      rw [wh_yes t0 body, i1, h3, lx, List.append_assoc]
      rfl
theorem law_least_ok (N : NW n o w) : ∃ c, F__law_least [nD n o, nD n w] (.dict []) = .ok (sD (Lv n o w []), c) := by
  have l6 := lft_len N []
  obtain ⟨es', d', a', b', h1, h2⟩ := ll_loop N 200 [] [] [] .no .no (by omega) (by simpa using l6) (Ac_nil N) Dn_nil Mem_nil
  rw [List.nil_append] at h1
  refine ⟨memD (VW n o w) es', runIO_rt (e := [.fz (nD n o), .fz (nD n w), .ow (some 0) (memD (VW n o w) es'), .fz (iL d'), .fz (sD (Lv n o w [])), a', b', .no, .no]) ?_ rfl⟩
  show B__law_least [.fz (nD n o), .fz (nD n w), .ow (some 0) (.dict []), .no, .no, .no, .no, .no, .no] = _
  have s1 : sSet 3 (xLst (aNil)) [.fz (nD n o), .fz (nD n w), .ow (some 0) (.dict []), .no, .no, .no, .no, .no, .no] = .ok (.nx, [.fz (nD n o), .fz (nD n w), .ow (some 0) (.dict []), .fz (iL []), .no, .no, .no, .no, .no]) := by simp [zero0, iL]
  have s2 : sOwn 4 (xLst (aNil)) [.fz (nD n o), .fz (nD n w), .ow (some 0) (.dict []), .fz (iL []), .no, .no, .no, .no, .no] = .ok (.nx, EL n o w [] [] [] .no .no .no .no) := by
    simp [zero0, EL, sD, memD]
  unfold B__law_least
  rw [seq_nx s1, seq_nx s2, seq_nx h1]
  unfold EL
  generalize sD (Lv n o w []) = S
  generalize nD n o = O
  generalize nD n w = V
  generalize memD (VW n o w) es' = M
  simp
end
end K09
set_option Elab.async false
set_option linter.all false
set_option maxRecDepth 100000
namespace K09
open PySem DP
/-- the draws -/
def Dr (ds : List Int) : Prop := ds.length ≤ 5000 ∧ ∀ d ∈ ds, 0 ≤ d ∧ d < 65536
theorem at_mod {ds : List Int} (h : 0 < ds.length) (k : Int) : ∃ d, d ∈ ds ∧ L2.atI (ds.map PyData.int) (k % (ds.length : Int)) = some (.int d) := by
  have h1 : 0 ≤ k % (ds.length : Int) := Int.emod_nonneg _ (by omega)
  have h2 : k % (ds.length : Int) < ds.length := Int.emod_lt_of_pos _ (by omega)
  have h3 : (k % (ds.length : Int)).toNat < ds.length := by omega
  refine ⟨ds[(k % (ds.length : Int)).toNat], List.getElem_mem h3, ?_⟩
  unfold L2.atI L2.ixN
  rw [List.length_map, if_pos h1, if_pos h2]
  simp [List.getElem?_eq_getElem h3]
theorem s64_c {i : Int} (h : -(2 ^ 64) < i) (h2 : i < 2 ^ 64) : s64 i = true := s64_iff.mpr ⟨h, h2⟩
theorem mix_ex {ds : List Int} (h : Dr ds) (k : Int) {m : Int} (hm : 0 < m) : ∃ v, F__law_mix [.list (ds.map .int), .int k, .int m] = .ok (.int v) ∧ 0 ≤ v ∧ v < m := by
  have a1 : s64 7919 = true := rfl
  have a2 : s64 104729 = true := rfl
  have fin : ∀ x : Int, ∃ v, Out.ok (PyData.int (x % m)) = Out.ok (PyData.int v) ∧ 0 ≤ v ∧ v < m := fun x => ⟨_, rfl, Int.emod_nonneg _ (by omega), Int.emod_lt_of_pos _ hm⟩
  unfold F__law_mix runB B__law_mix
  by_cases hl : 0 < ds.length
  · obtain ⟨d, _, hd⟩ := at_mod hl k
    have hl' : (0 : Int) < ds.length := by omega
    by_cases hk : k < ds.length
    · simp [hl, mod_int hl', hd, hk, mod_int hm]
      exact ⟨Int.emod_nonneg _ (by omega), Int.emod_lt_of_pos _ hm⟩
    · simp [hl, mod_int hl', hd, hk, mod_int hm, mul_r a1, mul_r a2, fdiv_int]
      exact ⟨Int.emod_nonneg _ (by omega), Int.emod_lt_of_pos _ hm⟩
  · have hk' : ds.length = 0 := by omega
    by_cases hk : k < ds.length
    · simp [hl, hk, mod_int hm]
      exact hm
    · simp [hl, hk, mod_int hm, mul_r a1, mul_r a2, fdiv_int]
      exact ⟨Int.emod_nonneg _ (by omega), Int.emod_lt_of_pos _ hm⟩
/-- the list that is drawn, after i numbers of the script -/
def Dw (n : Nat) (ds : List Int) : Prop := ds.length ≤ n ∧ ∀ d ∈ ds, 0 ≤ d ∧ d < 65536
theorem Dw.snoc {n : Nat} {ds : List Int} (h : Dw n ds) {d : Int} (h1 : 0 ≤ d) (h2 : d < 65536) : Dw (n + 1) (ds ++ [d]) := by
  refine ⟨by simp; exact h.1, fun x hx => ?_⟩
  rcases List.mem_append.mp hx with q | q
  · exact h.2 x q
  · rw [List.mem_singleton.mp q]; exact ⟨h1, h2⟩
theorem snoc_map (ds : List Int) (d : Int) : ds.map PyData.int ++ [PyData.int d] = (ds ++ [d]).map PyData.int := by simp
theorem draws_in (ns : List Int) (k r0 : Int) (h0 : 0 ≤ r0) (a0 b : Sl) (ds0 : List Int) (m : Nat) (hd : Dw m ds0) (hm : m ≤ 10000) :
    ∃ ds r a, forL (gN 4) Y1__law_draws (rngD 0 1 60) [.sc ns, .ow none (.list (ds0.map .int)), .fz (.int k), .fz (.int r0), a0, b] = .ok (.nx, [.sc ns, .ow none (.list (ds.map .int)), .fz (.int k), .fz (.int r), a, b]) ∧ Dw (m + 60) ds := by
  have step : ∀ (i : Nat) (x : D) (env : Ev), (rngD 0 1 60)[i]? = some x → (∃ ds r a, env = [.sc ns, .ow none (.list (ds.map .int)), .fz (.int k), .fz (.int r), a, b] ∧ 0 ≤ r ∧ Dw (m + (0 + i)) ds) →
      ∃ e1 e2, gN 4 x env = some e1 ∧ Y1__law_draws e1 = .ok (.nx, e2) ∧ ∃ ds r a, e2 = [.sc ns, .ow none (.list (ds.map .int)), .fz (.int k), .fz (.int r), a, b] ∧ 0 ≤ r ∧ Dw (m + (0 + i + 1)) ds := by
    rintro i x env hx ⟨ds, r, a, rfl, hr, hn⟩
    obtain ⟨hi, rfl⟩ := rngD_at hx
    rw [Nat.zero_add] at hn
    by_cases hp : 0 < r
    · have hl : (ds.map PyData.int).length < 16777216 := by rw [List.length_map]; have := hn.1; omega
      refine ⟨_, [.sc ns, .ow none (.list ((ds ++ [r % 65536]).map .int)), .fz (.int k), .fz (.int (r / 65536)), .fz (.int (0 + (i : Int) * 1)), b], rfl, ?_, ds ++ [r % 65536], r / 65536, _, rfl, by omega, by rw [Nat.zero_add]; exact hn.snoc (Int.emod_nonneg _ (by omega)) (Int.emod_lt_of_pos _ (by omega))⟩
      simp [Y1__law_draws, hp, mod_int, fdiv_int, app_small hl]
    · refine ⟨_, [.sc ns, .ow none (.list (ds.map .int)), .fz (.int k), .fz (.int r), .fz (.int (0 + (i : Int) * 1)), b], rfl, ?_, ds, r, _, rfl, hr, by rw [Nat.zero_add]; exact ⟨Nat.le_succ_of_le hn.1, hn.2⟩⟩
      simp [Y1__law_draws, hp]
  obtain ⟨e2, h1, ds, r, a', h3, h4, h5⟩ := for_inv (g := gN 4) (body := Y1__law_draws)
    (fun i env => ∃ ds r a, env = [.sc ns, .ow none (.list (ds.map .int)), .fz (.int k), .fz (.int r), a, b] ∧ 0 ≤ r ∧ Dw (m + i) ds) (rngD 0 1 60) 0 [.sc ns, .ow none (.list (ds0.map .int)), .fz (.int k), .fz (.int r0), a0, b] step ⟨ds0, r0, a0, rfl, h0, hd⟩
  rw [rngD_len, Nat.zero_add] at h5
  exact ⟨ds, r, a', by rw [h1, h3], h5⟩
theorem pow_10_18 : powD (.int 10) (.int 18) = some (.int 1000000000000000000) := by
  unfold powD
  simp
theorem draws_abs (ns : List Int) (i : Nat) (z y : Int) (a b c d : Sl) (hz : L2.atI ns (i : Int) = some z) (ha : absD [.int z] = some (.int y)) : sSet 3 (xn absD (aCons (xAtS 0 (xVar 2)) (aNil))) [.sc ns, a, .fz (.int i), b, c, d] = .ok (.nx, [.sc ns, a, .fz (.int i), .fz (.int y), c, d]) := by
  simp [hz, ha, -absD_i]
theorem draws_ask (y : Int) (t a b c d : Sl) {k : Bool} (hb : decide (1000000000000000000 ≤ y) = k) : tst (x2 geD (xVar 3) (x2 powD (xConst (.int 10)) (xConst (.int 18)))) [t, a, b, .fz (.int y), c, d] = .ok (k, [t, a, b, .fz (.int y), c, d]) := by
  simp [pow_10_18, hb]
theorem draws_big (ns : List Int) (i : Nat) (z y : Int) (b0 c0 d0 : Sl) (ds : List Int) (hz : L2.atI ns (i : Int) = some z) (ha : absD [.int z] = some (.int y)) (h0 : 0 ≤ y) (hb : 1000000000000000000 ≤ y) (hd : Dw (i * 60) ds) (hi : i < 63) :
    ∃ ds2 a b c d', Y2__law_draws [.sc ns, .ow none (.list (ds.map .int)), .fz (.int i), b0, c0, d0] = .ok (.nx, [.sc ns, .ow none (.list (ds2.map .int)), a, b, c, d']) ∧ Dw ((i + 1) * 60) ds2 := by
  obtain ⟨ds2, r2, a2, h5, h6⟩ := draws_in ns i y h0 c0 d0 ds (i * 60) hd (by omega)
  refine ⟨ds2, .fz (.int i), .fz (.int r2), a2, d0, ?_, by rw [show (i + 1) * 60 = i * 60 + 60 by omega]; exact h6⟩
  unfold Y2__law_draws
  rw [seq_nx (draws_abs ns i z y _ b0 c0 d0 hz ha), if_yes (draws_ask y _ _ _ c0 d0 (decide_eq_true hb))]
  unfold sFor iArgs
  rw [show ((aCons (xConst (.int 60)) aNil) [.sc ns, .ow none (.list (ds.map .int)), .fz (.int i), .fz (.int y), c0, d0]) = Out.ok ([.int 60], [.sc ns, .ow none (.list (ds.map .int)), .fz (.int i), .fz (.int y), c0, d0]) from rfl]
  simp only [Out.bind_ok]
  rw [show rng1 [.int 60] = some (rngD 0 1 60) from rfl]
  exact h5
theorem two_more {n : Nat} {ds : List Int} (h : Dw n ds) (x y : Int) (hx : 0 ≤ x ∧ x < 65536) (hy : 0 ≤ y ∧ y < 65536) : Dw (n + 60) (ds ++ [x] ++ [y]) := by
  have := (h.snoc hx.1 hx.2).snoc hy.1 hy.2
  exact ⟨Nat.le_trans this.1 (by omega), this.2⟩
theorem step1 (y i : Int) (a b c d : Sl)  : sSet 5 (x2 modD (xn intD (aCons (x2 addD (x2 mulD (xVar 3) (xConst (.int 48271))) (x2 mulD (x2 addD (xVar 2) (xConst (.int 1))) (xConst (.int 69621)))) (aNil))) (xConst (.int 2147483647))) [a, b, .fz (.int i), .fz (.int y), c, d] = .ok (.nx, [a, b, .fz (.int i), .fz (.int y), c, .fz (.int ((y * 48271 + (i + 1) * 69621) % 2147483647))]) := by
  have a1 : s64 48271 = true := rfl
  have a2 : s64 69621 = true := rfl
  simp [mod_int, mul_r a1, mul_r a2]
theorem step2 (y i : Int) (a b c d : Sl)  : sSet 5 (x2 modD (xn intD (aCons (x2 addD (x2 addD (x2 mulD (xVar 5) (xConst (.int 16807))) (x2 mulD (xConst (.int 11)) (xVar 2))) (xConst (.int 5))) (aNil))) (xConst (.int 2147483629))) [a, b, .fz (.int i), c, d, .fz (.int y)] = .ok (.nx, [a, b, .fz (.int i), c, d, .fz (.int ((y * 16807 + 11 * i + 5) % 2147483629))]) := by
  have a1 : s64 16807 = true := rfl
  have a2 : s64 11 = true := rfl
  simp [mod_int, mul_r a1, mul_l a2]
theorem step3 (y : Int) (ds : List Int) (a b c d : Sl) (hl : ds.length < 16777216) : sDrop (xMutL 1 opApp (aCons (x2 modD (xn intD (aCons (xVar 5) (aNil))) (xConst (.int 65536))) (aNil))) [a, .ow none (.list (ds.map .int)), b, c, d, .fz (.int y)] = .ok (.nx, [a, .ow none (.list ((ds ++ [y % 65536]).map .int)), b, c, d, .fz (.int y)]) := by
  have hl' : (ds.map PyData.int).length < 16777216 := by rw [List.length_map]; exact hl
  simp [mod_int, app_small hl']
theorem step4 (y : Int) (ds : List Int) (a b c d : Sl) (hl : ds.length < 16777216) : sDrop (xMutL 1 opApp (aCons (x2 modD (xn intD (aCons (x2 fdivD (xVar 5) (xConst (.int 65536))) (aNil))) (xConst (.int 32768))) (aNil))) [a, .ow none (.list (ds.map .int)), b, c, d, .fz (.int y)] = .ok (.nx, [a, .ow none (.list ((ds ++ [y / 65536 % 32768]).map .int)), b, c, d, .fz (.int y)]) := by
  have hl' : (ds.map PyData.int).length < 16777216 := by rw [List.length_map]; exact hl
  simp [mod_int, fdiv_int, app_small hl']
theorem draws_small (ns : List Int) (i : Nat) (z y : Int) (b0 c0 d0 : Sl) (ds : List Int) (hz : L2.atI ns (i : Int) = some z) (ha : absD [.int z] = some (.int y)) (h0 : 0 ≤ y) (hb : ¬ 1000000000000000000 ≤ y) (hd : Dw (i * 60) ds) (hi : i < 63) :
    ∃ ds2 a b c d', Y2__law_draws [.sc ns, .ow none (.list (ds.map .int)), .fz (.int i), b0, c0, d0] = .ok (.nx, [.sc ns, .ow none (.list (ds2.map .int)), a, b, c, d']) ∧ Dw ((i + 1) * 60) ds2 := by
  have hl : ds.length < 16777216 := by have := hd.1; omega
  have hl2 : ∀ v : Int, (ds ++ [v]).length < 16777216 := fun v => by rw [List.length_append, List.length_singleton]; have := hd.1; omega
  obtain ⟨v, hv⟩ : ∃ v, v = (y * 48271 + ((i : Int) + 1) * 69621) % 2147483647 := ⟨_, rfl⟩
  obtain ⟨u, hu⟩ : ∃ u, u = (v * 16807 + 11 * (i : Int) + 5) % 2147483629 := ⟨_, rfl⟩
  refine ⟨ds ++ [u % 65536] ++ [u / 65536 % 32768], .fz (.int i), .fz (.int y), c0, .fz (.int u), ?_, ?_⟩
  rotate_left
  · rw [show (i + 1) * 60 = i * 60 + 60 by omega]
    exact two_more hd _ _ ⟨Int.emod_nonneg _ (by decide), Int.emod_lt_of_pos _ (by decide)⟩ ⟨Int.emod_nonneg _ (by decide), Int.lt_of_lt_of_le (Int.emod_lt_of_pos _ (by decide)) (by decide)⟩
  · have s1 := step1 y i (.sc ns) (.ow none (.list (ds.map .int))) c0 d0
    rw [← hv] at s1
    have s2 := step2 v i (.sc ns) (.ow none (.list (ds.map .int))) (.fz (.int y)) c0
    rw [← hu] at s2
    unfold Y2__law_draws
    rw [seq_nx (draws_abs ns i z y _ b0 c0 d0 hz ha), if_no (draws_ask y _ _ _ c0 d0 (decide_eq_false hb)), seq_nx s1, seq_nx s2, seq_nx (step3 u ds _ _ _ _ hl), step4 u _ _ _ _ _ (hl2 _)]
theorem draws_ok {ns : List Int} (hn : ns.length ≤ 63) : ∃ ds, F__law_draws ns = .ok (.list (ds.map .int)) ∧ Dr ds := by
  have hx : (if (ns.length : Int) < 63 then (ns.length : Int) else 63) = ns.length := by split <;> omega
  have hr := rng1_ok (show (ns.length : Int) < 4611686018427387904 by omega) (by omega)
  have step : ∀ (i : Nat) (x : D) (env : Ev), (rngD 0 1 ns.length)[i]? = some x → (∃ ds a b c d, env = [.sc ns, .ow none (.list (ds.map .int)), a, b, c, d] ∧ Dw ((0 + i) * 60) ds) →
      ∃ e1 e2, gN 2 x env = some e1 ∧ Y2__law_draws e1 = .ok (.nx, e2) ∧ ∃ ds a b c d, e2 = [.sc ns, .ow none (.list (ds.map .int)), a, b, c, d] ∧ Dw ((0 + i + 1) * 60) ds := by
    rintro i x env hx ⟨ds, a, b, c, d, rfl, hd⟩
    rw [Nat.zero_add] at hd ⊢
    obtain ⟨hi, rfl⟩ := rngD_at hx
    have hz : L2.atI ns (i : Int) = some ns[i] := by
      unfold L2.atI L2.ixN
      rw [if_pos (by omega), if_pos (by omega)]
      simp [List.getElem?_eq_getElem hi]
    have ha : absD [.int ns[i]] = some (.int (if ns[i] < 0 then -ns[i] else ns[i])) := rfl
    have h0 : 0 ≤ (if ns[i] < 0 then -ns[i] else ns[i]) := by split <;> omega
    generalize (if ns[i] < 0 then -ns[i] else ns[i]) = y at ha h0
    generalize ns[i] = z at hz ha
    rw [show 0 + (i : Int) * 1 = i by omega]
    by_cases hb : 1000000000000000000 ≤ y
    · obtain ⟨ds2, a', b', c', d', h1, h2⟩ := draws_big ns i z y b c d ds hz ha h0 hb hd (by omega)
      exact ⟨_, _, rfl, h1, ds2, a', b', c', d', rfl, h2⟩
    · obtain ⟨ds2, a', b', c', d', h1, h2⟩ := draws_small ns i z y b c d ds hz ha h0 hb hd (by omega)
      exact ⟨_, _, rfl, h1, ds2, a', b', c', d', rfl, h2⟩
  obtain ⟨e2, h1, ds, a, b, c, d, h3, h4⟩ := for_inv (g := gN 2) (body := Y2__law_draws)
    (fun i env => ∃ ds a b c d, env = [.sc ns, .ow none (.list (ds.map .int)), a, b, c, d] ∧ Dw (i * 60) ds) (rngD 0 1 ns.length) 0 [.sc ns, .ow none (.list []), .no, .no, .no, .no] step ⟨[], _, _, _, _, rfl, by simp [Dw]⟩
  rw [rngD_len, Nat.zero_add] at h4
  refine ⟨ds, ?_, by have := h4.1; omega, h4.2⟩
  have l1 : (aCons (xn min2D (aCons (xConst (.int 63)) (aCons (xLenS 0) (aNil)))) (aNil)) [.sc ns, .ow none (.list []), .no, .no, .no, .no] = .ok ([.int ns.length], [.sc ns, .ow none (.list []), .no, .no, .no, .no]) := by simp [hx]
  have l2 := for_args (G := gN 2) (p := Y2__law_draws) l1 hr
  rw [Int.toNat_natCast, h1, h3] at l2
  have l3 : sOwn 1 (xLst aNil) [.sc ns, .no, .no, .no, .no, .no] = .ok (.nx, [.sc ns, .ow none (.list []), .no, .no, .no, .no]) := by simp
  refine runS_rt (e := [.sc ns, .fz (.list (ds.map .int)), a, b, c, d]) ?_
  show B__law_draws [.sc ns, .no, .no, .no, .no, .no] = _
  unfold B__law_draws
  rw [seq_nx l3, seq_nx l2]
  simp
end K09
set_option Elab.async false
set_option linter.all false
set_option maxRecDepth 100000
namespace K09
open PySem DP
theorem mixI {ds : List Int} (h : Dr ds) (k : Int) {m : Int} (hm : 0 < m) : ∃ v, F__law_mix [iL ds, .int k, .int m] = .ok (.int v) ∧ 0 ≤ v ∧ v < m := mix_ex h k hm
theorem call_ok {n : Nat} {F : FD} {g : AF} {env e1 : Ev} {ds : List D} {d : D} (h : g env = .ok (ds, e1)) (h2 : ds.length = n) (h3 : F ds = .ok d) : xCall n F g env = .ok (d, e1) := by
  unfold xCall
  rw [h]
  simp only [Out.bind_ok]
  rw [if_pos h2, h3]
theorem mutL_ok {i : Nat} {op : List D → List D → Option (D × List D)} {g : AF} {env e1 : Ev} {t0 t : Option Nat} {v0 ds ds' as : List D} {z : D} (h0 : env[i]? = some (.ow t0 (.list v0))) (h : g env = .ok (as, e1)) (h1 : e1[i]? = some (.ow t (.list ds))) (h2 : op ds as = some (z, ds')) : xMutL i op g env = .ok (z, e1.set i (.ow t (.list ds'))) := by
  unfold xMutL
  rw [h0]
  simp only [h, Out.bind_ok, h1, h2]
theorem R_succ (i : Nat) : R (i + 1) = R i ++ [(i : Int)] := by
  unfold R
  rw [List.range_succ, List.map_append]
  rfl
/-! ### the order -/
theorem ins_ok {ord : List Int} {v r : Int} (h0 : 0 ≤ v) (h1 : v < 2 ^ 63) (hl : ord.length ≤ 1000) : opIns (ord.map .int) [.int v, .int r] = some (.none, (ord.take v.toNat ++ [r] ++ ord.drop v.toNat).map .int) := by
  unfold opIns
  simp only
  rw [if_pos ⟨h0, h1, by rw [List.length_map, sizeLine_eq]; omega⟩]
  simp [List.map_take, List.map_drop]
theorem ord_step {ds : List Int} (hd : Dr ds) (first many : Int) {i : Nat} (hi : i ≤ 100) {ord : List Int} (hp : ord.Perm (R i)) :
    ∃ ord' : List Int, ord'.Perm (R (i + 1)) ∧ Y1__law_hops [.fz (iL ds), .fz (.int first), .fz (.int many), .ow none (iL ord), .fz (.int i), .no, .no, .no, .no] = .ok (.nx, [.fz (iL ds), .fz (.int first), .fz (.int many), .ow none (iL ord'), .fz (.int i), .no, .no, .no, .no]) := by
  have hl : ord.length = i := by rw [hp.length_eq, R_len]
  obtain ⟨v, h1, h2, h3⟩ := mixI hd (first + i) (m := (ord.length : Int) + 1) (by omega)
  have io := ins_ok (ord := ord) (v := v) (r := (i : Int)) h2 (by omega) (by omega)
  refine ⟨ord.take v.toNat ++ [(i : Int)] ++ ord.drop v.toNat, ?_, ?_⟩
  · rw [R_succ]
    have p1 : (ord.take v.toNat ++ [(i : Int)] ++ ord.drop v.toNat).Perm ((ord.take v.toNat ++ ord.drop v.toNat) ++ [(i : Int)]) := by
      rw [List.append_assoc, List.append_assoc]
      exact List.Perm.append_left _ List.perm_append_comm
    rw [List.take_append_drop] at p1
    exact p1.trans (hp.append_right _)
  · unfold Y1__law_hops
    have e3 : iL ord = .list (ord.map .int) := rfl
    have e4 : iL (ord.take v.toNat ++ [(i : Int)] ++ ord.drop v.toNat) = .list ((ord.take v.toNat ++ [(i : Int)] ++ ord.drop v.toNat).map .int) := rfl
    have le := iL_len ord
    rw [e4]
    rw [e3] at le ⊢
    generalize (ord.take v.toNat ++ [(i : Int)] ++ ord.drop v.toNat).map PyData.int = W at *
    generalize ord.map PyData.int = V at *
    generalize iL ds = DS at *
    have a : aCons (xCall 3 F__law_mix (aCons (xVar 0) (aCons (x2 addD (xVar 1) (xVar 4)) (aCons (x2 addD (xLenB 3) (xConst (.int 1))) (aNil))))) (aCons (xVar 4) (aNil)) [.fz DS, .fz (.int first), .fz (.int many), .ow none (.list V), .fz (.int i), .no, .no, .no, .no] =
        .ok ([.int v, .int i], [.fz DS, .fz (.int first), .fz (.int many), .ow none (.list V), .fz (.int i), .no, .no, .no, .no]) := by
      have lb : xLenB 3 [.fz DS, .fz (.int first), .fz (.int many), .ow none (.list V), .fz (.int i), .no, .no, .no, .no] = .ok (.int ord.length, [.fz DS, .fz (.int first), .fz (.int many), .ow none (.list V), .fz (.int i), .no, .no, .no, .no]) := by
        rw [xLenB_ap (c := .list V) rfl, le]
        rfl
      have g := a3_ok (env := [.fz DS, .fz (.int first), .fz (.int many), .ow none (.list V), .fz (.int i), .no, .no, .no, .no]) (f := xVar 0) (g := x2 addD (xVar 1) (xVar 4)) (k := x2 addD (xLenB 3) (xConst (.int 1))) (x := DS) (y := .int (first + i)) (z := .int ((ord.length : Int) + 1)) (xVar_fz rfl) (x2_ok (xVar_fz rfl) (xVar_fz rfl) (add_int _ _)) (x2_ok lb rfl (add_int _ _))
      exact a2_ok (call_ok g rfl h1) (xVar_fz rfl)
    have m := mutL_ok (i := 3) (op := opIns) (env := [.fz DS, .fz (.int first), .fz (.int many), .ow none (.list V), .fz (.int i), .no, .no, .no, .no]) rfl a rfl io
    simp only [sDrop_ap, m, Out.bind_ok]
    rfl
theorem ord_ok {ds : List Int} (hd : Dr ds) (first : Int) {n : Nat} (hn : n ≤ 6) (many : Int) : ∃ (ord : List Int) (a : Sl), ord.Perm (R n) ∧ forL (gN 4) Y1__law_hops (rngD 0 1 n) [.fz (iL ds), .fz (.int first), .fz (.int many), .ow none (iL []), .no, .no, .no, .no, .no] = .ok (.nx, [.fz (iL ds), .fz (.int first), .fz (.int many), .ow none (iL ord), a, .no, .no, .no, .no]) := by
  obtain ⟨e2, h1, ord, a, h2, h3⟩ := for_inv (g := gN 4) (body := Y1__law_hops) (fun i env => ∃ (ord : List Int) (a : Sl), env = [.fz (iL ds), .fz (.int first), .fz (.int many), .ow none (iL ord), a, .no, .no, .no, .no] ∧ ord.Perm (R i)) (rngD 0 1 n) 0 [.fz (iL ds), .fz (.int first), .fz (.int many), .ow none (iL []), .no, .no, .no, .no, .no] (by
    rintro i x env hx ⟨ord, a, rfl, hp⟩
    obtain ⟨hi, rfl⟩ := rngD_at hx
    rw [Nat.zero_add] at hp ⊢
    obtain ⟨ord', p1, p2⟩ := ord_step hd first many (i := i) (by omega) hp
    refine ⟨_, _, rfl, ?_, ord', .fz (.int i), rfl, p1⟩
    have : (0 : Int) + (i : Int) * 1 = i := by omega
    rw [this]
    exact p2) ⟨[], .no, rfl, List.Perm.refl _⟩
  rw [rngD_len, Nat.zero_add] at h3
  exact ⟨ord, a, h3, by rw [h1, h2]⟩
/-! ### the hops -/
def entP (p : Int × List Int) : D × D := (.int p.1, iL p.2)
theorem any_entP (k : Int) (ps : List (Int × List Int)) : (ps.map entP).any (kIs (.int k)) = decide (k ∈ ps.map (·.1)) := by
  have e : ∀ p, kIs (.int k) (entP p) = decide (p.1 = k) := fun p => by unfold kIs entP; simp [keyD]
  rw [List.any_map, Bool.eq_iff_iff]
  simp only [List.any_eq_true, Function.comp, e, decide_eq_true_eq, List.mem_map]
end K09
set_option Elab.async false
set_option linter.all false
set_option maxRecDepth 100000
namespace K09
open PySem DP
theorem put_entP {ps : List (Int × List Int)} {p : Int × List Int} (h : p.1 ∉ ps.map (·.1)) : dPut (ps.map entP) (.int p.1) (iL p.2) = (ps ++ [p]).map entP := by
  unfold dPut
  rw [any_entP, decide_eq_false h, if_neg Bool.false_ne_true, List.map_append]
  rfl
/-- what the k-th router gets -/
structure HP (ord : List Int) (j : Nat) (h : List Int) : Prop where
  pw : h.Pairwise (· < ·)
  len : h.length ≤ 2
  nil : h = [] ↔ j = 0
  low : ∀ x ∈ h, ∃ i, i < j ∧ ord[i]? = some x
theorem ints_of {P : Int → Prop} : ∀ ys : List D, (∀ y ∈ ys, ∃ x, y = .int x ∧ P x) → ∃ L : List Int, ys = L.map .int ∧ ∀ x ∈ L, P x
  | [], _ => ⟨[], rfl, fun _ h => nomatch h⟩
  | y :: ys, h => by
    obtain ⟨x, rfl, hx⟩ := h y List.mem_cons_self
    obtain ⟨L, rfl, hL⟩ := ints_of ys fun z hz => h z (List.mem_cons_of_mem _ hz)
    exact ⟨x :: L, rfl, fun z hz => by
      rcases List.mem_cons.mp hz with q | q
      · rw [q]; exact hx
      · exact hL z q⟩
theorem hop_pick {ds : List Int} (hd : Dr ds) (first many : Int) {ord : List Int} {i : Nat} (hi : i < ord.length) (h0 : 0 < i) (h6 : i ≤ 100) (F a b : Sl) (t : Int) :
    ∃ y, E2__law_hops [.fz (iL ds), .fz (.int first), .fz (.int many), .ow none (iL ord), a, F, .fz (.int i), b, .fz (.int t)] = .ok (y, [.fz (iL ds), .fz (.int first), .fz (.int many), .ow none (iL ord), a, F, .fz (.int i), b, .fz (.int t)]) ∧ ∃ x, y = .int x ∧ ∃ j, j < i ∧ ord[j]? = some x := by
  obtain ⟨v, h1, h2, h3⟩ := mixI hd (first + 10 + 3 * (i : Int) + t) (m := (i : Int)) (by omega)
  have hv : v.toNat < ord.length := by omega
  have e : ixD (iL ord) (.int v) = some (.int ord[v.toNat]) := by
    have := at_int (l := ord) (i := v.toNat) (List.getElem?_eq_getElem hv)
    have e2 : ((v.toNat : Nat) : Int) = v := by omega
    rw [e2] at this
    exact this
  refine ⟨.int ord[v.toNat], ?_, _, rfl, v.toNat, by omega, List.getElem?_eq_getElem hv⟩
  have a3 : s64 3 = true := rfl
  unfold E2__law_hops
  generalize iL ds = DS at *
  generalize iL ord = OR at *
  generalize hE : ([.fz DS, .fz (.int first), .fz (.int many), .ow none OR, a, F, .fz (.int i), b, .fz (.int t)] : Ev) = E
  have v0 : xVar 0 E = .ok (DS, E) := by rw [← hE]; exact xVar_fz rfl
  have v1 : xVar 1 E = .ok (.int first, E) := by rw [← hE]; exact xVar_fz rfl
  have v6 : xVar 6 E = .ok (.int i, E) := by rw [← hE]; exact xVar_fz rfl
  have v8 : xVar 8 E = .ok (.int t, E) := by rw [← hE]; exact xVar_fz rfl
  have sc : slotC E 3 = some OR := by rw [← hE]; rfl
  have c := call_ok (n := 3) (F := F__law_mix) (a3_ok v0 (x2_ok (x2_ok (x2_ok v1 (xConst_ap (d := .int 10)) (add_int _ _)) (x2_ok (xConst_ap (d := .int 3)) v6 (mul_l a3)) (add_int _ _)) v8 (add_int _ _)) v6) rfl h1
  rw [xIxB_ap sc, c]
  simp only [Out.bind_ok, sc, e, liftO_some]
theorem hop_step {ds : List Int} (hd : Dr ds) (first many : Int) {ord : List Int} (nd : ord.Nodup) {i : Nat} (hi : i < ord.length) (h6 : ord.length ≤ 6) {ps : List (Int × List Int)} (hp : ps.map (·.1) = ord.take i) (a b : Sl) :
    ∃ (h : List Int) (b' : Sl), HP ord i h ∧ Y3__law_hops [.fz (iL ds), .fz (.int first), .fz (.int many), .ow none (iL ord), a, .ow none (.dict (ps.map entP)), .fz (.int i), b, .no] =
      .ok (.nx, [.fz (iL ds), .fz (.int first), .fz (.int many), .ow none (iL ord), a, .ow none (.dict ((ps ++ [(ord[i], h)]).map entP)), .fz (.int i), b', .no]) := by
  have hpl : ps.length = i := by
    have := congrArg List.length hp
    rw [List.length_map, List.length_take] at this
    omega
  have hnot : ord[i] ∉ ps.map (·.1) := by
    rw [hp]
    intro z
    obtain ⟨j, hj, e⟩ := List.mem_take_iff_getElem.mp z
    have := (List.getElem_inj nd).mp e
    omega
  have e1 : ixD (iL ord) (.int (i : Int)) = some (.int ord[i]) := at_int (l := ord) (i := i) (List.getElem?_eq_getElem hi)
  have fin : ∀ (L : List Int), L.length ≤ 2 → sSetK 5 (xSortSetI (xVar 7)) (xIxB 3 (xVar 6)) [.fz (iL ds), .fz (.int first), .fz (.int many), .ow none (iL ord), a, .ow none (.dict (ps.map entP)), .fz (.int i), .fz (iL L), .no] =
      .ok (.nx, [.fz (iL ds), .fz (.int first), .fz (.int many), .ow none (iL ord), a, .ow none (.dict ((ps ++ [(ord[i], setZ L)]).map entP)), .fz (.int i), .fz (iL L), .no]) := fun L hL => by
    have so : sortSetID (iL L) = some (iL (setZ L)) := sortSetI_ok (by omega)
    rw [← put_entP (p := (ord[i], setZ L)) hnot]
    refine setK_ok (v := iL (setZ L)) (kk := .int ord[i]) (e1 := [.fz (iL ds), .fz (.int first), .fz (.int many), .ow none (iL ord), a, .ow none (.dict (ps.map entP)), .fz (.int i), .fz (iL L), .no]) (e2 := [.fz (iL ds), .fz (.int first), .fz (.int many), .ow none (iL ord), a, .ow none (.dict (ps.map entP)), .fz (.int i), .fz (iL L), .no]) ?_ rfl ?_ rfl rfl (by rw [List.length_map, sizeLine_eq]; omega)
    · simp only [xSortSetI_ap]
      rw [xVar_fz (d := iL L) rfl]
      simp only [Out.bind_ok, so, liftO_some]
    · rw [xIxB_ap (c := iL ord) rfl]
      rw [xVar_fz (d := .int i) rfl]
      simp only [Out.bind_ok]
      show (match some (iL ord) with
        | some c => liftO (ixD c (.int (i : Int))) _
        | none => .bad) = _
      simp only [e1, liftO_some]
  have s1 : sSet 7 (xLst (aNil)) [.fz (iL ds), .fz (.int first), .fz (.int many), .ow none (iL ord), a, .ow none (.dict (ps.map entP)), .fz (.int i), b, .no] = .ok (.nx, [.fz (iL ds), .fz (.int first), .fz (.int many), .ow none (iL ord), a, .ow none (.dict (ps.map entP)), .fz (.int i), .fz (iL []), .no]) := by
    simp [zero0, iL_nil]
  have tk : ∀ c : Sl, tst (x2 gtD (xVar 6) (xConst (.int 0))) [.fz (iL ds), .fz (.int first), .fz (.int many), .ow none (iL ord), a, .ow none (.dict (ps.map entP)), .fz (.int i), c, .no] = .ok (decide ((0 : Int) < (i : Int)), [.fz (iL ds), .fz (.int first), .fz (.int many), .ow none (iL ord), a, .ow none (.dict (ps.map entP)), .fz (.int i), c, .no]) := fun c =>
    tst_ok2 (x2_ok (xVar_fz rfl) (xConst_ap (d := .int 0)) (gt_int _ _))
  by_cases h0 : i = 0
  · refine ⟨setZ [], .fz (iL []), ⟨setZ_lt _, Nat.le_trans (setZ_len []) (by simp), ?_, fun x hx => ?_⟩, ?_⟩
    · exact ⟨fun _ => h0, fun _ => List.eq_nil_of_length_eq_zero (Nat.le_zero.mp (setZ_len []))⟩
    · rw [mem_setZ] at hx; cases hx
    · unfold Y3__law_hops
      have t := tk (.fz (iL []))
      rw [decide_eq_false (by omega)] at t
      rw [seq_nx s1, seq_nx (f := sIf _ _ _) (e1 := [.fz (iL ds), .fz (.int first), .fz (.int many), .ow none (iL ord), a, .ow none (.dict (ps.map entP)), .fz (.int i), .fz (iL []), .no]) (by rw [if_no t]; rfl)]
      exact fin [] (by simp)
  · obtain ⟨v, m1, m2, m3⟩ := mixI hd (first + 12 + 3 * (i : Int)) (m := 2) (by omega)
    obtain ⟨ys, c1, c2, c3⟩ := cmp_ex (g := gN 8) (el := E2__law_hops) (vs := [8]) (env := [.fz (iL ds), .fz (.int first), .fz (.int many), .ow none (iL ord), a, .ow none (.dict (ps.map entP)), .fz (.int i), .fz (iL []), .no])
      (R := fun y => ∃ x, y = .int x ∧ ∃ j, j < i ∧ ord[j]? = some x) (rngD 0 1 (1 + v).toNat) (fun x hx => by
        obtain ⟨j, hj⟩ := List.mem_iff_getElem?.mp hx
        obtain ⟨_, rfl⟩ := rngD_at hj
        obtain ⟨y, y1, y2⟩ := hop_pick hd first many hi (by omega) (by omega) (.ow none (.dict (ps.map entP))) a (.fz (iL [])) (0 + (j : Int) * 1)
        exact ⟨_, y, rfl, y1, rfl, y2⟩)
    obtain ⟨L, rfl, hL⟩ := ints_of ys c3
    have hlen : L.length = (1 + v).toNat := by rw [List.length_map, rngD_len] at c2; exact c2
    have s2 : sSet 7 (xComp (iArgs rng1 (aCons (x2 addD (xConst (.int 1)) (xCall 3 F__law_mix (aCons (xVar 0) (aCons (x2 addD (x2 addD (xVar 1) (xConst (.int 12))) (x2 mulD (xConst (.int 3)) (xVar 6))) (aCons (xConst (.int 2)) (aNil)))))) (aNil))) (gN 8) (tTrue) (E2__law_hops) [8])
        [.fz (iL ds), .fz (.int first), .fz (.int many), .ow none (iL ord), a, .ow none (.dict (ps.map entP)), .fz (.int i), .fz (iL []), .no] = .ok (.nx, [.fz (iL ds), .fz (.int first), .fz (.int many), .ow none (iL ord), a, .ow none (.dict (ps.map entP)), .fz (.int i), .fz (iL L), .no]) := by
      have a3 : s64 3 = true := rfl
      have cl := call_ok (n := 3) (F := F__law_mix) (a3_ok (env := [.fz (iL ds), .fz (.int first), .fz (.int many), .ow none (iL ord), a, .ow none (.dict (ps.map entP)), .fz (.int i), .fz (iL []), .no]) (f := xVar 0) (g := x2 addD (x2 addD (xVar 1) (xConst (.int 12))) (x2 mulD (xConst (.int 3)) (xVar 6))) (k := xConst (.int 2)) (xVar_fz rfl) (x2_ok (x2_ok (xVar_fz rfl) (xConst_ap (d := .int 12)) (add_int _ _)) (x2_ok (xConst_ap (d := .int 3)) (xVar_fz rfl) (mul_l a3)) (add_int _ _)) (xConst_ap (d := .int 2))) rfl m1
      have g0 : aCons (x2 addD (xConst (.int 1)) (xCall 3 F__law_mix (aCons (xVar 0) (aCons (x2 addD (x2 addD (xVar 1) (xConst (.int 12))) (x2 mulD (xConst (.int 3)) (xVar 6))) (aCons (xConst (.int 2)) (aNil)))))) (aNil) [.fz (iL ds), .fz (.int first), .fz (.int many), .ow none (iL ord), a, .ow none (.dict (ps.map entP)), .fz (.int i), .fz (iL []), .no] =
          .ok ([.int (1 + v)], [.fz (iL ds), .fz (.int first), .fz (.int many), .ow none (iL ord), a, .ow none (.dict (ps.map entP)), .fz (.int i), .fz (iL []), .no]) := by
        have := x2_ok (op := addD) (f := xConst (.int 1)) (xConst_ap (d := .int 1)) cl (add_int _ _)
        simp only [aCons_ap, this, Out.bind_ok, aNil_ap]
      have g1 := args_ok g0 (rng1_ok (x := 1 + v) (by omega) (by omega))
      have g2 := comp_ok (vs := [8]) g1 c1 (by rw [List.length_map, hlen, sizeLine_eq]; omega)
      simp only [sSet_ap, g2, Out.bind_ok]
      rfl
    refine ⟨setZ L, .fz (iL L), ⟨setZ_lt _, Nat.le_trans (setZ_len L) (by omega), ?_, fun x hx => hL x (mem_setZ.mp hx)⟩, ?_⟩
    · constructor
      · intro z
        exfalso
        have hne : L ≠ [] := fun q => by rw [q] at hlen; simp at hlen; omega
        obtain ⟨x, hx⟩ := List.exists_mem_of_ne_nil L hne
        have := mem_setZ.mpr hx
        rw [z] at this
        cases this
      · exact fun z => absurd z h0
    · unfold Y3__law_hops
      have t := tk (.fz (iL []))
      rw [decide_eq_true (by omega)] at t
      rw [seq_nx s1, seq_nx (f := sIf _ _ _) (e1 := [.fz (iL ds), .fz (.int first), .fz (.int many), .ow none (iL ord), a, .ow none (.dict (ps.map entP)), .fz (.int i), .fz (iL L), .no]) (by rw [if_yes t]; exact s2)]
      exact fin L (by omega)
end K09
set_option Elab.async false
set_option linter.all false
set_option maxRecDepth 100000
namespace K09
open PySem DP
def lk (ps : List (Int × List Int)) (r : Int) : List Int := ((ps.find? fun p => decide (p.1 = r)).map (·.2)).getD []
theorem lk_at {ps : List (Int × List Int)} (nd : (ps.map (·.1)).Nodup) {p : Int × List Int} (h : p ∈ ps) : lk ps p.1 = p.2 := by
  induction ps with
  | nil => cases h
  | cons q ps ih =>
    rw [List.map_cons, List.nodup_cons] at nd
    unfold lk
    rw [List.find?_cons]
    by_cases e : q.1 = p.1
    · rw [decide_eq_true e]
      rcases List.mem_cons.mp h with z | z
      · rw [z]; rfl
      · exact absurd (List.mem_map.mpr ⟨p, z, e.symm⟩) nd.1
    · rw [decide_eq_false e]
      rcases List.mem_cons.mp h with z | z
      · rw [z] at e; exact absurd rfl e
      · exact ih nd.2 z
theorem ents_lk {ps : List (Int × List Int)} (nd : (ps.map (·.1)).Nodup) : ps.map entP = (ps.map (·.1)).map (entF (lk ps)) := by
  rw [List.map_map]
  refine List.map_congr_left fun p hp => ?_
  show (PyData.int p.1, iL p.2) = (PyData.int p.1, iL (lk ps p.1))
  rw [lk_at nd hp]
theorem merge_ent (f : Int → List Int) : ∀ (L acc : List Int), (acc ++ L).Nodup → dMerge (acc.map (entF f)) (L.map (entF f)) = (acc ++ L).map (entF f)
  | [], acc, _ => by rw [List.append_nil]; rfl
  | r :: L, acc, nd => by
    have hr : r ∉ acc := fun z => (List.nodup_append.mp nd).2.2 r z r List.mem_cons_self rfl
    have := merge_ent f L (acc ++ [r]) (by rw [List.append_assoc]; exact nd)
    rw [List.append_assoc] at this
    rw [List.map_cons]
    show dMerge (dPut (acc.map (entF f)) (.int r) (iL (f r))) (L.map (entF f)) = _
    rw [put_ent f hr]
    exact this
theorem pairs_ent (f : Int → List Int) : ∀ L : List Int, pairsD (L.map fun r => .tuple [.int r, iL (f r)]) = some (L.map (entF f))
  | [] => rfl
  | r :: L => by
    rw [List.map_cons]
    unfold pairsD
    rw [pairs_ent f L]
    rfl
theorem dict_nD (n : Nat) (f : Int → List Int) : dictD [.list ((R n).map fun r => .tuple [.int r, iL (f r)])] = some (nD n f) := by
  show (pairsD ((R n).map fun r => .tuple [.int r, iL (f r)])).map (fun ps => PyData.dict (dMerge [] ps)) = _
  rw [pairs_ent]
  have := merge_ent f (R n) [] ((R_pw n).imp fun h => by omega)
  show some (PyData.dict (dMerge [] ((R n).map (entF f)))) = _
  have e : dMerge [] ((R n).map (entF f)) = (R n).map (entF f) := this
  rw [e]
  rfl
/-- what the drawn nets are -/
structure Good (n : Nat) (f : Int → List Int) : Prop where
  few : Few n f
  hop : isH n f = true
  cyc : cyc n f = false
theorem lhops_ok {ds : List Int} (hd : Dr ds) (first : Int) {n : Nat} (h1 : 1 ≤ n) (hn : n ≤ 6) : ∃ f, F__law_hops [iL ds, .int first, .int n] = .ok (nD n f) ∧ Good n f := by
  obtain ⟨ord, a, hp, l1⟩ := ord_ok hd first hn (n : Int)
  have hl : ord.length = n := by rw [hp.length_eq, R_len]
  have nd : ord.Nodup := hp.nodup_iff.mpr ((R_pw n).imp fun h => by omega)
  -- the second loop
  obtain ⟨e2, g1, ps, b, k, rfl, g5, g6⟩ := for_inv (g := gN 6) (body := Y3__law_hops) (fun i env => ∃ (ps : List (Int × List Int)) (b k : Sl), env = [.fz (iL ds), .fz (.int first), .fz (.int (n : Int)), .ow none (iL ord), a, .ow none (.dict (ps.map entP)), k, b, .no] ∧ ps.map (·.1) = ord.take i ∧ ∀ (j : Nat) p, ps[j]? = some p → HP ord j p.2) (rngD 0 1 n) 0
      [.fz (iL ds), .fz (.int first), .fz (.int (n : Int)), .ow none (iL ord), a, .ow none (.dict []), .no, .no, .no] (by
    rintro i x env hx ⟨ps, b, k, rfl, q1, q2⟩
    obtain ⟨hi, rfl⟩ := rngD_at hx
    rw [Nat.zero_add] at q1
    obtain ⟨h, b', r1, r2⟩ := hop_step hd first (n : Int) nd (i := i) (by omega) (by omega) q1 a b
    have hpl : ps.length = i := by
      have := congrArg List.length q1
      rw [List.length_map, List.length_take] at this
      omega
    refine ⟨[.fz (iL ds), .fz (.int first), .fz (.int (n : Int)), .ow none (iL ord), a, .ow none (.dict (ps.map entP)), .fz (.int (i : Int)), b, .no], _, ?_, r2, ps ++ [(ord[i], h)], b', .fz (.int (i : Int)), rfl, ?_, fun j p hj => ?_⟩
    · have : (0 : Int) + (i : Int) * 1 = i := by omega
      rw [this]
      rfl
    · have hi' : i < ord.length := by omega
      rw [List.map_append, q1, Nat.zero_add, List.take_succ, List.getElem?_eq_getElem hi']
      rfl
    · by_cases hj2 : j < ps.length
      · rw [List.getElem?_append_left hj2] at hj
        exact q2 j p hj
      · rw [List.getElem?_append_right (by omega)] at hj
        have : j - ps.length = 0 := by
          cases e : j - ps.length with
          | zero => rfl
          | succ m => rw [e] at hj; simp at hj
        rw [this] at hj
        cases hj
        have : j = i := by omega
        subst this
        exact r1) ⟨[], .no, .no, rfl, by simp, fun j p h => by simp at h⟩
  rw [rngD_len, Nat.zero_add, ← hl, List.take_length] at g5
  have ndp : (ps.map (·.1)).Nodup := by rw [g5]; exact nd
  have ef : ps.map entP = ord.map (entF (lk ps)) := by rw [ents_lk ndp, g5]
  have hpl : ps.length = n := by
    have := congrArg List.length g5
    rw [List.length_map] at this
    omega
  -- by place
  have at_ : ∀ r ∈ R n, ∃ j : Nat, ord[j]? = some r ∧ j < n ∧ HP ord j (lk ps r) := fun r hr => by
    obtain ⟨j, hj⟩ := List.mem_iff_getElem?.mp (hp.mem_iff.mpr hr)
    have hjl : j < ord.length := (List.getElem?_eq_some_iff.mp hj).1
    have hp0 : ps[j]? = some ps[j] := List.getElem?_eq_getElem (by omega)
    have h3 : (ps.map (·.1))[j]? = some ps[j].1 := by rw [List.getElem?_map, hp0]; rfl
    rw [g5, hj] at h3
    injection h3 with h3
    have := g6 j _ hp0
    rw [← lk_at ndp (List.mem_of_getElem? hp0), ← h3] at this
    exact ⟨j, hj, by omega, this⟩
  have inj : ∀ (i j : Nat) (x : Int), ord[i]? = some x → ord[j]? = some x → i = j := fun i j x e e' => by
    have h1 := (List.getElem?_eq_some_iff.mp e).1
    exact (List.getElem?_inj h1 nd).mp (e.trans e'.symm)
  have inR : ∀ (i : Nat) (x : Int), ord[i]? = some x → x ∈ R n := fun i x e => hp.mem_iff.mp (List.mem_of_getElem? e)
  refine ⟨lk ps, ?_, ?_, ?_, ?_⟩
  · -- the walk
    have e0 : rng1 [.int (n : Int)] = some (rngD 0 1 n) := by
      have := rng1_ok (x := (n : Int)) (by omega) (by omega)
      simpa using this
    rw [ef] at g1
    generalize lk ps = f at *
    have s1 : sOwn 3 (xLst (aNil)) [.fz (iL ds), .fz (.int first), .fz (.int (n : Int)), .no, .no, .no, .no, .no, .no] = .ok (.nx, [.fz (iL ds), .fz (.int first), .fz (.int (n : Int)), .ow none (iL []), .no, .no, .no, .no, .no]) := by
      simp [zero0, iL_nil]
    have s2 : sFor (iArgs rng1 (aCons (xVar 2) (aNil))) (gN 4) (Y1__law_hops) [.fz (iL ds), .fz (.int first), .fz (.int (n : Int)), .ow none (iL []), .no, .no, .no, .no, .no] = .ok (.nx, [.fz (iL ds), .fz (.int first), .fz (.int (n : Int)), .ow none (iL ord), a, .no, .no, .no, .no]) := by
      have e1 : aCons (xVar 2) aNil [.fz (iL ds), .fz (.int first), .fz (.int (n : Int)), .ow none (iL []), .no, .no, .no, .no, .no] = .ok ([.int (n : Int)], [.fz (iL ds), .fz (.int first), .fz (.int (n : Int)), .ow none (iL []), .no, .no, .no, .no, .no]) := by
        simp only [aCons_ap, aNil_ap]
        rw [xVar_fz (d := .int (n : Int)) rfl]
        rfl
      rw [for_args e1 e0]
      exact l1
    have s3 : sOwn 5 (xConst (.dict [])) [.fz (iL ds), .fz (.int first), .fz (.int (n : Int)), .ow none (iL ord), a, .no, .no, .no, .no] = .ok (.nx, [.fz (iL ds), .fz (.int first), .fz (.int (n : Int)), .ow none (iL ord), a, .ow none (.dict []), .no, .no, .no]) := by
      simp
    have s4 : sFor (iArgs rng1 (aCons (xVar 2) (aNil))) (gN 6) (Y3__law_hops) [.fz (iL ds), .fz (.int first), .fz (.int (n : Int)), .ow none (iL ord), a, .ow none (.dict []), .no, .no, .no] = .ok (.nx, [.fz (iL ds), .fz (.int first), .fz (.int (n : Int)), .ow none (iL ord), a, .ow none (.dict (ord.map (entF f))), k, b, .no]) := by
      have e1 : aCons (xVar 2) aNil [.fz (iL ds), .fz (.int first), .fz (.int (n : Int)), .ow none (iL ord), a, .ow none (.dict []), .no, .no, .no] = .ok ([.int (n : Int)], [.fz (iL ds), .fz (.int first), .fz (.int (n : Int)), .ow none (iL ord), a, .ow none (.dict []), .no, .no, .no]) := by
        simp only [aCons_ap, aNil_ap]
        rw [xVar_fz (d := .int (n : Int)) rfl]
        rfl
      rw [for_args e1 e0]
      exact g1
    have so : sortedD2 [.dict (ord.map (entF f))] = some (iL (R n)) := by
      have e : (ord.map (entF f)).map (·.1) = ord.map PyData.int := by rw [List.map_map]; rfl
      show (if srtOk ((ord.map (entF f)).map (·.1)) = true then some (PyData.list (sortL ((ord.map (entF f)).map (·.1)))) else none) = _
      rw [e, if_pos (srtOk_ints _), sortL_ints, srtZ_eq (R_pw n) hp.symm]
      rfl
    have ixf : ∀ r ∈ R n, ixD (.dict (ord.map (entF f))) (.int r) = some (iL (f r)) := fun r hr => by
      show (if keyOk (.int r) = true then dAt (ord.map (entF f)) (.int r) else none) = _
      rw [if_pos (show keyOk (.int r) = true from rfl), dAt_ent, if_pos (hp.mem_iff.mpr hr)]
    generalize PyData.dict (ord.map (entF f)) = FD at *
    have h2 : iIt (xn sortedD2 (aCons (xVar 5) (aNil))) [.fz (iL ds), .fz (.int first), .fz (.int (n : Int)), .ow none (iL ord), a, .ow none FD, k, b, .no] = .ok ((R n).map .int, [.fz (iL ds), .fz (.int first), .fz (.int (n : Int)), .ow none (iL ord), a, .fz FD, k, b, .no]) := by
      simp only [iIt_ap, xn_ap, aCons_ap, aNil_ap]
      rw [xVar_ow (d := FD) rfl]
      simp only [Out.bind_ok, so, liftO_some, iL_it]
      rfl
    have q := cmp_mapT (F := PyData.int) (g := gN 4) (el := E4__law_hops) (vs := [4]) (env := [.fz (iL ds), .fz (.int first), .fz (.int (n : Int)), .ow none (iL ord), .no, .fz FD, k, b, .no]) (f := fun r => .tuple [.int r, iL (f r)]) (R n) fun r hr => ⟨[.fz (iL ds), .fz (.int first), .fz (.int (n : Int)), .ow none (iL ord), .fz (.int r), .fz FD, k, b, .no], rfl, by
      have e1 := ixf r hr
      have t := a2_ok (env := [.fz (iL ds), .fz (.int first), .fz (.int (n : Int)), .ow none (iL ord), .fz (.int r), .fz FD, k, b, .no]) (f := xVar 4) (g := xIxB 5 (xVar 4)) (x := .int r) (y := iL (f r)) (xVar_fz rfl) (by
        rw [xIxB_ap (c := FD) rfl, xVar_fz (d := .int r) rfl]
        show (match some FD with
          | some c => liftO (ixD c (.int r)) _
          | none => .bad) = _
        simp only [e1, liftO_some])
      unfold E4__law_hops
      simp only [xTup_ap, t, Out.bind_ok]
      rw [if_pos (show [PyData.int r, iL (f r)].length ≤ sizeLine from two0)]
      rfl, rfl⟩
    have h3 := comp_ok (vs := [4]) h2 q (by rw [List.length_map, R_len, sizeLine_eq]; omega)
    have h4 := xn1_ok h3 (dict_nD n f)
    refine runB_rt (e := backE [.fz (iL ds), .fz (.int first), .fz (.int (n : Int)), .ow none (iL ord), a, .fz FD, k, b, .no] [.fz (iL ds), .fz (.int first), .fz (.int (n : Int)), .ow none (iL ord), .no, .fz FD, k, b, .no] [4]) ?_
    show B__law_hops [.fz (iL ds), .fz (.int first), .fz (.int (n : Int)), .no, .no, .no, .no, .no, .no] = _
    unfold B__law_hops
    rw [seq_nx s1, seq_nx s2, seq_nx s3, seq_nx s4]
    simp only [sRet_ap, h4, Out.bind_ok]
  · intro r hr
    obtain ⟨j, _, _, h⟩ := at_ r hr
    have := h.len
    omega
  · have f0 : ((R n).filter fun r => decide (lk ps r = [])).length = 1 := by
      rw [← (hp.filter _).length_eq]
      cases ord with
      | nil => simp at hl; omega
      | cons r0 rest =>
        obtain ⟨j0, q1, q2, q3⟩ := at_ r0 (inR 0 r0 rfl)
        have : j0 = 0 := inj j0 0 r0 q1 rfl
        subst this
        rw [List.filter_cons_of_pos (by simpa using q3.nil.mpr rfl)]
        have : rest.filter (fun r => decide (lk ps r = [])) = [] := by
          rw [List.filter_eq_nil_iff]
          intro r hr
          obtain ⟨i, hi⟩ := List.mem_iff_getElem?.mp hr
          obtain ⟨j, q4, q5, q6⟩ := at_ r (inR (i + 1) r (by simpa using hi))
          have : j = i + 1 := inj j (i + 1) r q4 (by simpa using hi)
          simp only [decide_eq_true_eq]
          exact fun z => by have := q6.nil.mp z; omega
        rw [this]
        rfl
    unfold isH
    rw [decide_eq_true (by omega), decide_eq_true f0, Bool.true_and, Bool.true_and, List.all_eq_true]
    intro r hr
    obtain ⟨j, q1, q2, q3⟩ := at_ r hr
    unfold okR
    rw [decide_eq_true q3.pw, Bool.true_and, Bool.and_eq_true]
    refine ⟨decide_eq_true fun z => ?_, ?_⟩
    · obtain ⟨i, hi, e⟩ := q3.low r z
      have := inj i j r e q1
      omega
    · rw [List.all_eq_true]
      intro x hx
      obtain ⟨i, hi, e⟩ := q3.low x hx
      exact decide_eq_true (inR i x e)
  · have rkEx : ∀ r : Int, ∃ j : Nat, r ∈ R n → ord[j]? = some r := fun r => by
      by_cases hr : r ∈ R n
      · obtain ⟨j, q1, _⟩ := at_ r hr
        exact ⟨j, fun _ => q1⟩
      · exact ⟨0, fun h => absurd h hr⟩
    obtain ⟨rk, hrk⟩ := Classical.axiomOfChoice rkEx
    refine cyc_rank rk fun r hr x hx => ?_
    obtain ⟨j, q1, q2, q3⟩ := at_ r hr
    obtain ⟨i, hi, e⟩ := q3.low x hx
    have e1 := inj (rk r) j r (hrk r hr) q1
    have e2 := inj (rk x) i x (hrk x (inR i x e)) e
    omega
end K09
set_option Elab.async false
set_option linter.all false
set_option maxRecDepth 100000
namespace K09
open PySem DP
/-! ### what is shown -/
def Sm (xs : List Int) : Prop := ∀ x ∈ xs, x.natAbs < 10 ^ 12
theorem nc_ints : ∀ {xs : List Int}, Sm xs → ncAll (xs.map PyData.int) = true
  | [], _ => rfl
  | x :: xs, h => by
    rw [List.map_cons]
    simp only [ncAll, nc, Bool.and_eq_true, decide_eq_true_eq]
    exact ⟨h x List.mem_cons_self, nc_ints fun y hy => h y (List.mem_cons_of_mem _ hy)⟩
theorem bulk_ints : ∀ xs : List Int, PyData.bulkAll (xs.map PyData.int) = xs.length
  | [] => rfl
  | x :: xs => by
    rw [List.map_cons]
    simp only [PyData.bulkAll, PyData.bulk, bulk_ints xs, List.length_cons]
    omega
theorem iL_show {xs : List Int} (h : Sm xs) : (iL xs).showable = true ∧ (iL xs).leavesShort 13 = true ∧ (iL xs).bulk = xs.length := by
  have q := nc_show (iL xs) (nc_ints h)
  exact ⟨q.1, q.2.2.1, by simp [iL, PyData.bulk, bulk_ints]⟩
theorem sm_R {n : Nat} (hn : n ≤ 100) {xs : List Int} (h : ∀ x ∈ xs, x ∈ R n) : Sm xs := fun x hx => by
  have := mem_R.mp (h x hx)
  have : x.natAbs ≤ 100 := by omega
  exact Nat.lt_of_le_of_lt this (by decide)
theorem rows_show : ∀ {L : List (List Int)} {m : Nat}, (∀ t ∈ L, Sm t ∧ t.length ≤ m) → PyData.showableAll (L.map iL) = true ∧ PyData.leavesShortAll 13 (L.map iL) = true ∧ PyData.bulkAll (L.map iL) ≤ L.length * (m + 1) ∧ PyData.depthAll (L.map iL) ≤ 1
  | [], m, _ => ⟨rfl, rfl, by simp [PyData.bulkAll], by simp [PyData.depthAll]⟩
  | t :: L, m, h => by
    obtain ⟨a1, a2, a3⟩ := iL_show (h t List.mem_cons_self).1
    obtain ⟨b1, b2, b3, b4⟩ := rows_show fun u hu => h u (List.mem_cons_of_mem _ hu)
    have := (h t List.mem_cons_self).2
    rw [List.map_cons, List.length_cons]
    refine ⟨by simp [PyData.showableAll, a1, b1], by simp [PyData.leavesShortAll, a2, b2], ?_, ?_⟩
    · simp only [PyData.bulkAll, a3]
      rw [Nat.succ_mul]
      omega
    · simp only [PyData.depthAll, iL_depth]
      omega
theorem repr_rows {L : List (List Int)} (h : ∀ t ∈ L, Sm t ∧ t.length ≤ 100) (hl : L.length ≤ 100) : ∃ s, reprD2 [sD L] = some (.str s) := by
  obtain ⟨b1, b2, b3, b4⟩ := rows_show h
  refine ⟨(sD L).shown, ?_⟩
  unfold reprD2
  simp only
  refine if_pos ⟨?_, ?_, PyData.shown_fits_bulk (B := 13) (by decide) (by decide) ?_ ?_⟩
  · simp only [sD, PyData.showable]; exact b1
  · simp only [sD, PyData.depth]; omega
  · simp only [sD, PyData.leavesShort]; exact b2
  · simp only [sD, PyData.bulk]
    have : L.length * (100 + 1) ≤ 100 * 101 := Nat.mul_le_mul hl (by omega)
    omega
theorem ents_show (f : Int → List Int) : ∀ {L : List Int} {m : Nat}, Sm L → (∀ r ∈ L, Sm (f r) ∧ (f r).length ≤ m) → PyData.showableKv (L.map (entF f)) = true ∧ PyData.leavesShortKv 13 (L.map (entF f)) = true ∧ PyData.bulkKv (L.map (entF f)) ≤ L.length * (m + 2) ∧ PyData.depthKv (L.map (entF f)) ≤ 1
  | [], m, _, _ => ⟨rfl, rfl, by simp [PyData.bulkKv], by simp [PyData.depthKv]⟩
  | r :: L, m, hs, h => by
    obtain ⟨a1, a2, a3⟩ := iL_show (h r List.mem_cons_self).1
    obtain ⟨b1, b2, b3, b4⟩ := ents_show f (m := m) (fun x hx => hs x (List.mem_cons_of_mem _ hx)) fun u hu => h u (List.mem_cons_of_mem _ hu)
    have := (h r List.mem_cons_self).2
    have q := nc_show (.int r) (by simpa [nc] using hs r List.mem_cons_self)
    rw [List.map_cons, List.length_cons]
    refine ⟨?_, ?_, ?_, ?_⟩
    · simp [PyData.showableKv, entF, q.1, a1, b1]
    · simp [PyData.leavesShortKv, entF, q.2.2.1, a2, b2]
    · rw [show entF f r = (PyData.int r, iL (f r)) from rfl]
      simp only [PyData.bulkKv, a3, PyData.bulk]
      rw [Nat.succ_mul]
      omega
    · rw [show entF f r = (PyData.int r, iL (f r)) from rfl]
      simp only [PyData.depthKv, PyData.depth, iL_depth]
      omega
theorem repr_pair {n : Nat} {o w : Int → List Int} (hn : n ≤ 6) (ho : Good n o) (hw : Good n w) : ∃ s, reprD2 [.tuple [nD n o, nD n w]] = some (.str s) := by
  have sm : Sm (R n) := sm_R (by omega) fun x h => h
  obtain ⟨a1, a2, a3, a4⟩ := ents_show o (m := 20) sm fun r hr => ⟨sm_R (by omega) (isH_in ho.hop r hr), ho.few r hr⟩
  obtain ⟨b1, b2, b3, b4⟩ := ents_show w (m := 20) sm fun r hr => ⟨sm_R (by omega) (isH_in hw.hop r hr), hw.few r hr⟩
  rw [R_len] at a3 b3
  refine ⟨(PyData.tuple [nD n o, nD n w]).shown, ?_⟩
  unfold reprD2
  simp only
  refine if_pos ⟨?_, ?_, PyData.shown_fits_bulk (B := 13) (by decide) (by decide) ?_ ?_⟩
  · simp [PyData.showable, PyData.showableAll, nD, a1, b1]
  · simp only [PyData.depth, PyData.depthAll, nD]; omega
  · simp [PyData.leavesShort, PyData.leavesShortAll, nD, a2, b2]
  · simp only [PyData.bulk, PyData.bulkAll, nD]; omega
theorem repr_bool (b : Bool) : ∃ s, reprD2 [.bool b] = some (.str s) := by
  refine ⟨(PyData.bool b).shown, ?_⟩
  unfold reprD2
  simp only
  exact if_pos ⟨rfl, by simp [PyData.depth], PyData.shown_fits_bulk (B := 13) (by decide) (by decide) rfl (by simp [PyData.bulk])⟩
/-! ### a net is itself -/
theorem intKV_ent (f : Int → List Int) : ∀ L : List Int, intKV (L.map (entF f)) = some (L.map fun r => (r, iL (f r)))
  | [] => rfl
  | r :: L => by
    rw [List.map_cons]
    unfold entF intKV
    have := intKV_ent f L
    unfold entF at this
    rw [this]
    rfl
theorem look_ent (f : Int → List Int) (r : Int) : ∀ L : List Int, r ∈ L → lookI (L.map fun r => (r, iL (f r))) r = some (iL (f r))
  | [], h => by cases h
  | x :: L, h => by
    unfold lookI
    rw [List.map_cons, List.find?_cons]
    by_cases e : x = r
    · rw [decide_eq_true e, e]; rfl
    · rw [decide_eq_false e]
      exact look_ent f r L ((List.mem_cons.mp h).resolve_left fun z => e z.symm)
theorem ne_self (n : Nat) (f : Int → List Int) : neD2 (nD n f) (nD n f) = some (.bool false) := by
  show (eqKVO ((R n).map (entF f)) ((R n).map (entF f))).map (fun q => PyData.bool (!q)) = _
  unfold eqKVO
  rw [intKV_ent]
  simp only
  have p : plainV ((R n).map fun r => (r, iL (f r))) = true := by
    unfold plainV
    rw [List.all_eq_true]
    intro x hx
    obtain ⟨r, _, rfl⟩ := List.mem_map.mp hx
    simp [iL_plain, iL_depth]
  have e : eqKV ((R n).map fun r => (r, iL (f r))) ((R n).map fun r => (r, iL (f r))) = true := by
    unfold eqKV
    rw [Bool.and_eq_true]
    refine ⟨by simp, ?_⟩
    rw [List.all_eq_true]
    intro x hx
    obtain ⟨r, hr, rfl⟩ := List.mem_map.mp hx
    unfold eqAt
    simp only
    rw [look_ent f r (R n) hr]
    simp [iL_eqv]
  rw [p, e]
  rfl
section
variable {n : Nat} {o w : Int → List Int}
theorem NW.of (hn : n ≤ 6) (ho : Good n o) (hw : Good n w) : NW n o w := by
  refine ⟨hn, ho.few, hw.few, ?_⟩
  unfold chk
  rw [ho.hop, hw.hop, ho.cyc, hw.cyc]
  simp
theorem hopsat_ok (N : NW n o w) (d : List Int) : F_hops_at [nD n o, nD n w, iL d] = .ok (nD n (mixF o w d [])) := by
  have c := N.check
  have m := mixed_ok N.fo N.fw N.n100 d []
  refine runB_rt (e := [.fz (nD n o), .fz (nD n w), .fz (iL d)]) ?_
  show B_hops_at [.fz (nD n o), .fz (nD n w), .fz (iL d)] = _
  generalize nD n (mixF o w d []) = X at *
  generalize nD n o = O at *
  generalize nD n w = V at *
  rw [iL_nil] at m
  unfold B_hops_at
  simp [c, m, zero0]
theorem issafe_ok (N : NW n o w) (d now : List Int) : F_is_safe [nD n o, nD n w, iL d, iL now] = .ok (.bool (!cyc n (mixF o w d now))) := by
  have c := N.check
  have m := rsafe_ok N.fo N.fw N.n100 d now
  refine runB_rt (e := [.fz (nD n o), .fz (nD n w), .fz (iL d), .fz (iL now)]) ?_
  show B_is_safe [.fz (nD n o), .fz (nD n w), .fz (iL d), .fz (iL now)] = _
  generalize nD n o = O at *
  generalize nD n w = V at *
  unfold B_is_safe
  simp [c, m]
end
end K09
set_option Elab.async false
set_option linter.all false
set_option maxRecDepth 100000
namespace K09
open PySem DP
section
variable {n : Nat} {o w : Int → List Int} {ns : List Int} {s1 s2 s3 s4 s5 s6 s7 s8 s9 s10 s11 s12 s13 s14 s15 s16 s17 s18 : Sl}
theorem a1_ok {f : XF} {env e1 : Ev} {x : D} (h1 : f env = .ok (x, e1)) : aCons f aNil env = .ok ([x], e1) := by
  simp only [aCons_ap, h1, Out.bind_ok, aNil_ap]
theorem a4_ok {f g h k : XF} {env : Ev} {x y z u : D} (h1 : f env = .ok (x, env)) (h2 : g env = .ok (y, env)) (h3 : h env = .ok (z, env)) (h4 : k env = .ok (u, env)) : aCons f (aCons g (aCons h (aCons k aNil))) env = .ok ([x, y, z, u], env) := by
  simp only [aCons_ap, h1, h2, h3, h4, Out.bind_ok, aNil_ap]
theorem lst_ok {g : AF} {env e1 : Ev} {ds : List D} (h : g env = .ok (ds, e1)) (hl : ds.length ≤ 10000) : xLst g env = .ok (.list ds, e1) := by
  simp only [xLst_ap, h, Out.bind_ok]
  rw [if_pos (by rw [sizeLine_eq]; omega)]
  rfl
theorem tup_ok {g : AF} {env e1 : Ev} {ds : List D} (h : g env = .ok (ds, e1)) (hl : ds.length ≤ 10000) : xTup g env = .ok (.tuple ds, e1) := by
  simp only [xTup_ap, h, Out.bind_ok]
  rw [if_pos (by rw [sizeLine_eq]; omega)]
  rfl
theorem it_ok {f : XF} {env e1 : Ev} {d : D} {xs : List D} (h : f env = .ok (d, e1)) (h2 : itD d = some xs) : iIt f env = .ok (xs, e1) := by
  simp only [iIt_ap, h, Out.bind_ok, h2, liftO_some]
theorem set_ok {i : Nat} {f : XF} {env e1 : Ev} {d : D} (h : f env = .ok (d, e1)) : sSet i f env = .ok (.nx, e1.set i (.fz d)) := by
  simp only [sSet_ap, h, Out.bind_ok]
theorem for_ok {it : IF} {g : GF} {b : SF} {env e1 : Ev} {xs : List D} (h : it env = .ok (xs, e1)) : sFor it g b env = forL g b xs e1 := by
  simp only [sFor_ap, h, Out.bind_ok]
theorem skip_ok {c : TF} {f : SF} {env : Ev} (h : c env = .ok (false, env)) : sIf c f sNext env = .ok (.nx, env) := by
  rw [if_no h]; rfl

/-- one selection of a round's routers -/
theorem y2_ok (N : NW n o w) {d some : List Int} (hs : cyc n (mixF o w (d ++ some) []) = false) (hl : d.length + some.length ≤ 10000) : Y2_law ([.sc ns, s1, s2, .fz (nD n o), .fz (nD n w), s5, s6, .fz (iL d), s8, s9, s10, s11, s12, s13, s14, .fz (iL some), s16, s17, .no] : Ev) = .ok (.nx, ([.sc ns, s1, s2, .fz (nD n o), .fz (nD n w), s5, s6, .fz (iL d), s8, s9, s10, s11, s12, s13, s14, .fz (iL some), s16, s17, .no] : Ev)) := by
  have ad : ∀ s18 : Sl, x2 addD (xVar 7) (xVar 15) ([.sc ns, s1, s2, .fz (nD n o), .fz (nD n w), s5, s6, .fz (iL d), s8, s9, s10, s11, s12, s13, s14, .fz (iL some), s16, s17, s18] : Ev) = .ok (iL (d ++ some), ([.sc ns, s1, s2, .fz (nD n o), .fz (nD n w), s5, s6, .fz (iL d), s8, s9, s10, s11, s12, s13, s14, .fz (iL some), s16, s17, s18] : Ev)) := fun s18 => x2_ok (xVar_fz rfl) (xVar_fz rfl) (add_iL d some hl)
  have hp : xCall 3 F_hops_at (aCons (xVar 3) (aCons (xVar 4) (aCons (x2 addD (xVar 7) (xVar 15)) (aNil)))) ([.sc ns, s1, s2, .fz (nD n o), .fz (nD n w), s5, s6, .fz (iL d), s8, s9, s10, s11, s12, s13, s14, .fz (iL some), s16, s17, .no] : Ev) = .ok (nD n (mixF o w (d ++ some) []), ([.sc ns, s1, s2, .fz (nD n o), .fz (nD n w), s5, s6, .fz (iL d), s8, s9, s10, s11, s12, s13, s14, .fz (iL some), s16, s17, .no] : Ev)) := call_ok (a3_ok (xVar_fz rfl) (xVar_fz rfl) (ad .no)) rfl (hopsat_ok N _)
  have rd : F__law_round [nD n (mixF o w (d ++ some) [])] = .ok (.bool false) := by
    rw [round_ok N.n100 (fun r hr => by have := mix_len N.fo N.fw (d ++ some) [] r hr; omega), hs]
  have t1 := tst_ok (call_ok (n := 1) (F := F__law_round) (a1_ok hp) rfl rd)
  have q := cmp_mapT (F := PyData.int) (g := gN 18) (el := E1_law) (vs := [18]) (env := ([.sc ns, s1, s2, .fz (nD n o), .fz (nD n w), s5, s6, .fz (iL d), s8, s9, s10, s11, s12, s13, s14, .fz (iL some), s16, s17, .no] : Ev)) (f := fun r => .tuple [.int r, iL (mixF o w (d ++ some) [] r)]) (R n) fun r hr => ⟨([.sc ns, s1, s2, .fz (nD n o), .fz (nD n w), s5, s6, .fz (iL d), s8, s9, s10, s11, s12, s13, s14, .fz (iL some), s16, s17, .fz (.int r)] : Ev), rfl, by
    have i1 := ix_nD (f := o) hr
    have i2 := ix_nD (f := w) hr
    have ls := lst_ok (env := ([.sc ns, s1, s2, .fz (nD n o), .fz (nD n w), s5, s6, .fz (iL d), s8, s9, s10, s11, s12, s13, s14, .fz (iL some), s16, s17, .fz (.int r)] : Ev)) (a2_ok (x2_ok (f := xVar 3) (g := xVar 18) (xVar_fz rfl) (xVar_fz rfl) i1) (x2_ok (f := xVar 4) (g := xVar 18) (xVar_fz rfl) (xVar_fz rfl) i2)) (by simp)
    have ii : xn intD (aCons (x2 inD2 (xVar 18) (x2 addD (xVar 7) (xVar 15))) (aNil)) ([.sc ns, s1, s2, .fz (nD n o), .fz (nD n w), s5, s6, .fz (iL d), s8, s9, s10, s11, s12, s13, s14, .fz (iL some), s16, s17, .fz (.int r)] : Ev) = .ok (.int (if decide (r ∈ d ++ some) = true then 1 else 0), ([.sc ns, s1, s2, .fz (nD n o), .fz (nD n w), s5, s6, .fz (iL d), s8, s9, s10, s11, s12, s13, s14, .fz (iL some), s16, s17, .fz (.int r)] : Ev)) := xn1_ok (x2_ok (xVar_fz rfl) (ad _) (in_iL _ _)) rfl
    have m0 : mixF o w (d ++ some) [] r = if r ∈ d ++ some then w r else o r := if_neg (by simp)
    have ix : ixD (.list [iL (o r), iL (w r)]) (.int (if decide (r ∈ d ++ some) = true then 1 else 0)) = Option.some (iL (mixF o w (d ++ some) [] r)) := by
      rw [m0]
      by_cases h : r ∈ d ++ some
      · rw [decide_eq_true h, if_pos h]; rfl
      · rw [decide_eq_false h, if_neg h]; rfl
    exact tup_ok (a2_ok (xVar_fz rfl) (x2_ok ls ii ix)) (by simp), rfl⟩
  have g1 := it_ok (f := xVar 3) (env := ([.sc ns, s1, s2, .fz (nD n o), .fz (nD n w), s5, s6, .fz (iL d), s8, s9, s10, s11, s12, s13, s14, .fz (iL some), s16, s17, .no] : Ev)) (xVar_fz rfl) (it_nD n o)
  have g2 := comp_ok (vs := [18]) g1 q (by have := N.n6; rw [List.length_map, R_len, sizeLine_eq]; omega)
  have t2 := tst_ok (x2_ok hp (xn1_ok g2 (dict_nD n (mixF o w (d ++ some) []))) (ne_self _ _))
  exact skip_ok (tor_ok t1 t2)

/-- one round -/
theorem y3_ok (N : NW n o w) {d now : List Int} (hs : cyc n (mixF o w d now) = false) (hl : d.length ≤ 100) (hn : now.length ≤ 6) : ∃ s, Y3_law ([.sc ns, s1, s2, .fz (nD n o), .fz (nD n w), s5, s6, .fz (iL d), .fz (iL now), s9, s10, s11, s12, s13, s14, s15, s16, s17, .no] : Ev) = .ok (.nx, ([.sc ns, s1, s2, .fz (nD n o), .fz (nD n w), s5, s6, .fz (iL (d ++ now)), .fz (iL now), s9, s10, s11, s12, s13, s14, s, s16, s17, .no] : Ev)) := by
  have su := lsets_ok (xs := now) (by omega)
  have key : ∀ (C : List (List Int)) (s15 : Sl), (∀ t ∈ C, t.Sublist now) → ∃ s, forL (gN 15) Y2_law (C.map iL) ([.sc ns, s1, s2, .fz (nD n o), .fz (nD n w), s5, s6, .fz (iL d), .fz (iL now), s9, s10, s11, s12, s13, s14, s15, s16, s17, .no] : Ev) = .ok (.nx, ([.sc ns, s1, s2, .fz (nD n o), .fz (nD n w), s5, s6, .fz (iL d), .fz (iL now), s9, s10, s11, s12, s13, s14, s, s16, s17, .no] : Ev)) := by
    intro C
    induction C with
    | nil => exact fun s15 _ => ⟨s15, rfl⟩
    | cons t C ih =>
      intro s15 h
      obtain ⟨s, hs2⟩ := ih (.fz (iL t)) fun x hx => h x (List.mem_cons_of_mem _ hx)
      refine ⟨s, ?_⟩
      rw [List.map_cons]
      conv => lhs; unfold forL
      simp only [gN_ap]
      have ht := h t List.mem_cons_self
      have tl := ht.length_le
      show ((Y2_law ([.sc ns, s1, s2, .fz (nD n o), .fz (nD n w), s5, s6, .fz (iL d), .fz (iL now), s9, s10, s11, s12, s13, s14, .fz (iL t), s16, s17, .no] : Ev)).bind _) = _
      rw [y2_ok N (sub_safe hs fun r hr => ht.subset hr) (by omega)]
      exact hs2
  obtain ⟨s, hk⟩ := key (subs now) s15 fun t ht => subs_sub ht
  refine ⟨s, ?_⟩
  unfold Y3_law
  have g1 := it_ok (f := xCall 1 F__law_sets (aCons (xVar 8) (aNil))) (env := ([.sc ns, s1, s2, .fz (nD n o), .fz (nD n w), s5, s6, .fz (iL d), .fz (iL now), s9, s10, s11, s12, s13, s14, s15, s16, s17, .no] : Ev)) (call_ok (a1_ok (xVar_fz rfl)) rfl su) (show itD (sD (subs now)) = some ((subs now).map iL) from rfl)
  have s1 : sFor (iIt (xCall 1 F__law_sets (aCons (xVar 8) (aNil)))) (gN 15) (Y2_law) ([.sc ns, s1, s2, .fz (nD n o), .fz (nD n w), s5, s6, .fz (iL d), .fz (iL now), s9, s10, s11, s12, s13, s14, s15, s16, s17, .no] : Ev) = .ok (.nx, ([.sc ns, s1, s2, .fz (nD n o), .fz (nD n w), s5, s6, .fz (iL d), .fz (iL now), s9, s10, s11, s12, s13, s14, s, s16, s17, .no] : Ev)) := by
    rw [for_ok g1]
    exact hk
  rw [seq_nx s1]
  exact set_ok (x2_ok (xVar_fz rfl) (xVar_fz rfl) (add_iL d now (by omega)))

def FzNo (s : Sl) : Prop := s = .no ∨ ∃ x, s = .fz x
theorem loop8 (N : NW n o w) : ∀ (rows : List (List Int)) (d : List Int) (s8 s15 : Sl), GR n o w d rows → (∀ now ∈ rows, now.length ≤ 6) → d.length + 6 * rows.length ≤ 100 → FzNo s8 →
    ∃ (d' : List Int) (t8 t15 : Sl), forL (gN 8) Y3_law (rows.map iL) ([.sc ns, s1, s2, .fz (nD n o), .fz (nD n w), s5, s6, .fz (iL d), s8, s9, s10, s11, s12, s13, s14, s15, s16, s17, .no] : Ev) = .ok (.nx, ([.sc ns, s1, s2, .fz (nD n o), .fz (nD n w), s5, s6, (.fz (iL d')), t8, s9, s10, s11, s12, s13, s14, t15, s16, s17, .no] : Ev)) ∧ FzNo t8
  | [], d, s8, s15, _, _, _, h => ⟨d, s8, s15, rfl, h⟩
  | now :: rows, d, s8, s15, g, h, hz, hf => by
    rw [List.length_cons] at hz
    have hn := h now List.mem_cons_self
    obtain ⟨t, ht⟩ := y3_ok (ns := ns) (s1 := s1) (s2 := s2) (s5 := s5) (s6 := s6) (s9 := s9) (s10 := s10) (s11 := s11) (s12 := s12) (s13 := s13) (s14 := s14) (s15 := s15) (s16 := s16) (s17 := s17) N g.2.2.1 (by omega) hn
    obtain ⟨d', t8, t15, h1, h2⟩ := loop8 N rows (d ++ now) (.fz (iL now)) t g.2.2.2 (fun x hx => h x (List.mem_cons_of_mem _ hx)) (by rw [List.length_append]; omega) (.inr ⟨_, rfl⟩)
    refine ⟨d', t8, t15, ?_, h2⟩
    rw [List.map_cons]
    conv => lhs; unfold forL
    simp only [gN_ap]
    show ((Y3_law ([.sc ns, s1, s2, .fz (nD n o), .fz (nD n w), s5, s6, .fz (iL d), .fz (iL now), s9, s10, s11, s12, s13, s14, s15, s16, s17, .no] : Ev)).bind _) = _
    rw [ht]
    exact h1

theorem Lv_sub (N : NW n o w) : ∀ now ∈ Lv n o w [], now.length ≤ 6 ∧ ∀ x ∈ now, x ∈ R n := by
  obtain ⟨g, p⟩ := Lv_good N 7 [] (by have := lft_len N []; omega) (Ac_nil N)
  intro now hn
  have hsub : ∀ x ∈ now, x ∈ (Lv n o w []).flatten := fun x hx => List.mem_flatten.mpr ⟨now, hn, hx⟩
  refine ⟨?_, fun x hx => lft_R x (p.mem_iff.mp (hsub x hx))⟩
  have h1 := p.length_eq
  have h2 := lft_len N []
  have h3 : now.length ≤ (Lv n o w []).flatten.length := (List.sublist_flatten_of_mem hn).length_le
  omega
theorem Lv_rounds (N : NW n o w) : GR n o w [] (Lv n o w []) ∧ (Lv n o w []).flatten.Perm (chg n o w) := by
  have e0 : lft n o w [] = chg n o w := by
    unfold lft
    exact List.filter_eq_self.mpr fun x _ => by simp
  obtain ⟨g, p⟩ := Lv_good N 7 [] (by have := lft_len N []; omega) (Ac_nil N)
  rw [e0] at p
  exact ⟨g, p⟩
theorem step6 (N : NW n o w) : sIf (tOrF (tst (x2 neD2 (xn reprD2 (aCons (xVar 6) (aNil))) (xn reprD2 (aCons (xCallION 2 (F__law_least) (aCons (xVar 3) (aCons (xVar 4) (aNil))) (xConst (.dict []))) (aNil))))) (tOrF (tst (x2 isntBD (xCall 3 F_are_rounds (aCons (xVar 3) (aCons (xVar 4) (aCons (xVar 6) (aNil))))) (xConst (.bool true)))) (tst (x1 notN (xCall 2 F_check_change (aCons (xVar 3) (aCons (xVar 4) (aNil)))))))) (sRet (xConst (.bool false))) (sNext) ([.sc ns, s1, s2, .fz (nD n o), .fz (nD n w), s5, .fz (sD (Lv n o w [])), s7, s8, s9, s10, s11, s12, s13, s14, s15, s16, s17, s18] : Ev) = .ok (.nx, ([.sc ns, s1, s2, .fz (nD n o), .fz (nD n w), s5, .fz (sD (Lv n o w [])), s7, s8, s9, s10, s11, s12, s13, s14, s15, s16, s17, s18] : Ev)) := by
  have hl := Lv_len N (Ac_nil N)
  have hs := Lv_sub N
  obtain ⟨g, p⟩ := Lv_rounds N
  obtain ⟨c, hc⟩ := law_least_ok N
  obtain ⟨st, hr⟩ := repr_rows (L := Lv n o w []) (fun t ht => ⟨sm_R N.n100 (hs t ht).2, by have := (hs t ht).1; omega⟩) (by omega)
  have ar := arounds_ok N (rows := Lv n o w []) (fun now hn => by have := (hs now hn).1; omega) (by omega)
  rw [g.yes p] at ar
  have cl := callION_ok (n := 2) (F := F__law_least) (l := aCons (xVar 3) (aCons (xVar 4) (aNil))) (fN := xConst (.dict [])) (env := ([.sc ns, s1, s2, .fz (nD n o), .fz (nD n w), s5, .fz (sD (Lv n o w [])), s7, s8, s9, s10, s11, s12, s13, s14, s15, s16, s17, s18] : Ev)) (e1 := ([.sc ns, s1, s2, .fz (nD n o), .fz (nD n w), s5, .fz (sD (Lv n o w [])), s7, s8, s9, s10, s11, s12, s13, s14, s15, s16, s17, s18] : Ev)) (e2 := ([.sc ns, s1, s2, .fz (nD n o), .fz (nD n w), s5, .fz (sD (Lv n o w [])), s7, s8, s9, s10, s11, s12, s13, s14, s15, s16, s17, s18] : Ev)) (ds := [nD n o, nD n w]) (cc := .dict []) (a2_ok (xVar_fz rfl) (xVar_fz rfl)) rfl rfl hc
  have t1 := tst_ok (x2_ok (op := neD2) (env := ([.sc ns, s1, s2, .fz (nD n o), .fz (nD n w), s5, .fz (sD (Lv n o w [])), s7, s8, s9, s10, s11, s12, s13, s14, s15, s16, s17, s18] : Ev)) (f := xn reprD2 (aCons (xVar 6) (aNil))) (xn1_ok (xVar_fz rfl) hr) (xn1_ok cl hr) (ne2_str _ _))
  rw [decide_eq_false (fun h => h rfl)] at t1
  have t2 := tst_ok (x2_ok (op := isntBD) (env := ([.sc ns, s1, s2, .fz (nD n o), .fz (nD n w), s5, .fz (sD (Lv n o w [])), s7, s8, s9, s10, s11, s12, s13, s14, s15, s16, s17, s18] : Ev)) (f := xCall 3 F_are_rounds (aCons (xVar 3) (aCons (xVar 4) (aCons (xVar 6) (aNil))))) (g := xConst (.bool true)) (call_ok (a3_ok (xVar_fz rfl) (xVar_fz rfl) (xVar_fz rfl)) rfl ar) rfl (show isntBD (.bool true) (.bool true) = some (.bool false) from rfl))
  have ck : xCall 2 F_check_change (aCons (xVar 3) (aCons (xVar 4) (aNil))) ([.sc ns, s1, s2, .fz (nD n o), .fz (nD n w), s5, .fz (sD (Lv n o w [])), s7, s8, s9, s10, s11, s12, s13, s14, s15, s16, s17, s18] : Ev) = .ok (.none, ([.sc ns, s1, s2, .fz (nD n o), .fz (nD n w), s5, .fz (sD (Lv n o w [])), s7, s8, s9, s10, s11, s12, s13, s14, s15, s16, s17, s18] : Ev)) := call_ok (a2_ok (xVar_fz rfl) (xVar_fz rfl)) rfl N.check
  have t3 : tst (x1 notN (xCall 2 F_check_change (aCons (xVar 3) (aCons (xVar 4) (aNil))))) ([.sc ns, s1, s2, .fz (nD n o), .fz (nD n w), s5, .fz (sD (Lv n o w [])), s7, s8, s9, s10, s11, s12, s13, s14, s15, s16, s17, s18] : Ev) = .ok (false, ([.sc ns, s1, s2, .fz (nD n o), .fz (nD n w), s5, .fz (sD (Lv n o w [])), s7, s8, s9, s10, s11, s12, s13, s14, s15, s16, s17, s18] : Ev)) := by
    refine tst_ok ?_
    simp only [x1_ap, ck, Out.bind_ok]
    rfl
  exact skip_ok (tor_ok t1 (tor_ok t2 t3))

theorem step10 (N : NW n o w) : sSet 10 (xComp (iIt (xn sortedD2 (aCons (xVar 3) (aNil)))) (gN 17) (tst (x2 neD2 (x2 ixD (xVar 3) (xVar 17)) (x2 ixD (xVar 4) (xVar 17)))) (E4_law) [17]) ([.sc ns, s1, s2, .fz (nD n o), .fz (nD n w), s5, s6, s7, s8, s9, s10, s11, s12, s13, s14, s15, s16, .no, s18] : Ev) = .ok (.nx, ([.sc ns, s1, s2, .fz (nD n o), .fz (nD n w), s5, s6, s7, s8, s9, .fz (iL (chg n o w)), s11, s12, s13, s14, s15, s16, .no, s18] : Ev)) := by
  have q := cmp_map (F := PyData.int) (g := gN 17) (ts := tst (x2 neD2 (x2 ixD (xVar 3) (xVar 17)) (x2 ixD (xVar 4) (xVar 17)))) (el := E4_law) (vs := [17]) (env := ([.sc ns, s1, s2, .fz (nD n o), .fz (nD n w), s5, s6, s7, s8, s9, s10, s11, s12, s13, s14, s15, s16, .no, s18] : Ev)) (b := fun r => decide (o r ≠ w r)) (f := fun r => .int r) (R n) fun r hr => ⟨([.sc ns, s1, s2, .fz (nD n o), .fz (nD n w), s5, s6, s7, s8, s9, s10, s11, s12, s13, s14, s15, s16, .fz (.int r), s18] : Ev), rfl,
    tst_ok (x2_ok (x2_ok (f := xVar 3) (g := xVar 17) (xVar_fz rfl) (xVar_fz rfl) (ix_nD hr)) (x2_ok (f := xVar 4) (g := xVar 17) (xVar_fz rfl) (xVar_fz rfl) (ix_nD hr)) (iL_ne _ _)), fun _ => xVar_fz rfl, rfl⟩
  have g1 := it_ok (env := ([.sc ns, s1, s2, .fz (nD n o), .fz (nD n w), s5, s6, s7, s8, s9, s10, s11, s12, s13, s14, s15, s16, .no, s18] : Ev)) (xn1_ok (f := xVar 3) (xVar_fz rfl) (sorted_nD n o)) (iL_it (R n))
  have g2 := comp_ok (vs := [17]) g1 q (by have := N.chg6; rw [List.length_map, sizeLine_eq]; show (chg n o w).length ≤ _; omega)
  exact set_ok g2

theorem step11 (N : NW n o w) {rs : List Int} (g : GR n o w [] (rs.map fun r => [r])) (p : rs.Perm (chg n o w)) (h8 : FzNo s8) : sIf (tOrF (tst (x2 isntBD (xCall 3 F_are_rounds (aCons (xVar 3) (aCons (xVar 4) (aCons (xVar 9) (aNil))))) (xConst (.bool true)))) (tOrF (tst (x2 neD2 (xn sortedD2 (aCons (xComp (iIt (xVar 9)) (gN 8) (tTrue) (E5_law) [8]) (aNil))) (xVar 10))) (tst (x2 neD2 (xComp (iIt (xVar 9)) (gN 8) (tst (x2 neD2 (xn lenD (aCons (xVar 8) (aNil))) (xConst (.int 1)))) (E6_law) [8]) (xLst (aNil)))))) (sRet (xConst (.bool false))) (sNext) ([.sc ns, s1, s2, .fz (nD n o), .fz (nD n w), s5, s6, s7, s8, .fz (sD (rs.map fun r => [r])), .fz (iL (chg n o w)), s11, s12, s13, s14, s15, s16, s17, s18] : Ev) = .ok (.nx, ([.sc ns, s1, s2, .fz (nD n o), .fz (nD n w), s5, s6, s7, s8, .fz (sD (rs.map fun r => [r])), .fz (iL (chg n o w)), s11, s12, s13, s14, s15, s16, s17, s18] : Ev)) := by
  have hl : rs.length ≤ 6 := by rw [p.length_eq]; exact N.chg6
  have ar := arounds_ok N (rows := rs.map fun r => [r]) (fun now hn => by obtain ⟨r, _, rfl⟩ := List.mem_map.mp hn; simp) (by rw [List.length_map]; omega)
  rw [g.yes (by rw [flat1]; exact p)] at ar
  have t1 := tst_ok (x2_ok (op := isntBD) (env := ([.sc ns, s1, s2, .fz (nD n o), .fz (nD n w), s5, s6, s7, s8, .fz (sD (rs.map fun r => [r])), .fz (iL (chg n o w)), s11, s12, s13, s14, s15, s16, s17, s18] : Ev)) (f := xCall 3 F_are_rounds (aCons (xVar 3) (aCons (xVar 4) (aCons (xVar 9) (aNil))))) (g := xConst (.bool true)) (call_ok (a3_ok (xVar_fz rfl) (xVar_fz rfl) (xVar_fz rfl)) rfl ar) rfl (show isntBD (.bool true) (.bool true) = some (.bool false) from rfl))
  have ml : (rs.map fun r => [r]).map iL = rs.map fun r => iL [r] := by rw [List.map_map]; rfl
  have it0 : itD (sD (rs.map fun r => [r])) = some (rs.map fun r => iL [r]) := by show some ((rs.map fun r => [r]).map iL) = _; rw [ml]
  have q1 := cmp_mapT (F := fun r => iL [r]) (g := gN 8) (el := E5_law) (vs := [8]) (env := ([.sc ns, s1, s2, .fz (nD n o), .fz (nD n w), s5, s6, s7, .no, .fz (sD (rs.map fun r => [r])), .fz (iL (chg n o w)), s11, s12, s13, s14, s15, s16, s17, s18] : Ev)) (f := fun r => .int r) rs fun r _ => ⟨([.sc ns, s1, s2, .fz (nD n o), .fz (nD n w), s5, s6, s7, .fz (iL [r]), .fz (sD (rs.map fun r => [r])), .fz (iL (chg n o w)), s11, s12, s13, s14, s15, s16, s17, s18] : Ev), rfl, x2_ok (f := xVar 8) (g := xConst (.int 0)) (xVar_fz rfl) rfl (show ixD (iL [r]) (.int 0) = some (.int r) from at_int (l := [r]) (i := 0) rfl), rfl⟩
  have q2 := cmp_map (F := fun r => iL [r]) (g := gN 8) (ts := tst (x2 neD2 (xn lenD (aCons (xVar 8) (aNil))) (xConst (.int 1)))) (el := E6_law) (vs := [8]) (env := ([.sc ns, s1, s2, .fz (nD n o), .fz (nD n w), s5, s6, s7, .no, .fz (sD (rs.map fun r => [r])), .fz (iL (chg n o w)), s11, s12, s13, s14, s15, s16, s17, s18] : Ev)) (b := fun _ => false) (f := fun r => iL [r]) rs fun r _ => ⟨([.sc ns, s1, s2, .fz (nD n o), .fz (nD n w), s5, s6, s7, .fz (iL [r]), .fz (sD (rs.map fun r => [r])), .fz (iL (chg n o w)), s11, s12, s13, s14, s15, s16, s17, s18] : Ev), rfl, tst_ok (x2_ok (f := xn lenD (aCons (xVar 8) (aNil))) (g := xConst (.int 1)) (xn1_ok (xVar_fz rfl) (iL_len [r])) rfl (ne2_int _ _)), fun h => (by cases h), rfl⟩
  have fe : rs.filter (fun _ => false) = [] := by simp
  rw [fe] at q2
  have so : srtZ rs = chg n o w := srtZ_eq chg_pw p.symm
  have go : tOrF (tst (x2 neD2 (xn sortedD2 (aCons (xComp (iIt (xVar 9)) (gN 8) (tTrue) (E5_law) [8]) (aNil))) (xVar 10))) (tst (x2 neD2 (xComp (iIt (xVar 9)) (gN 8) (tst (x2 neD2 (xn lenD (aCons (xVar 8) (aNil))) (xConst (.int 1)))) (E6_law) [8]) (xLst (aNil)))) ([.sc ns, s1, s2, .fz (nD n o), .fz (nD n w), s5, s6, s7, s8, .fz (sD (rs.map fun r => [r])), .fz (iL (chg n o w)), s11, s12, s13, s14, s15, s16, s17, s18] : Ev) = .ok (false, ([.sc ns, s1, s2, .fz (nD n o), .fz (nD n w), s5, s6, s7, s8, .fz (sD (rs.map fun r => [r])), .fz (iL (chg n o w)), s11, s12, s13, s14, s15, s16, s17, s18] : Ev)) := by
    have sl := sorted_iL rs
    rcases h8 with rfl | ⟨x, rfl⟩
    · have g1 := it_ok (f := xVar 9) (env := ([.sc ns, s1, s2, .fz (nD n o), .fz (nD n w), s5, s6, s7, .no, .fz (sD (rs.map fun r => [r])), .fz (iL (chg n o w)), s11, s12, s13, s14, s15, s16, s17, s18] : Ev)) (xVar_fz rfl) it0
      have c1 := comp_ok (vs := [8]) g1 q1 (by rw [List.length_map, sizeLine_eq]; omega)
      have c2 := comp_ok (vs := [8]) g1 q2 (by simp)
      have t2 := tst_ok (x2_ok (op := neD2) (g := xVar 10) (xn1_ok c1 sl) (xVar_fz rfl) (iL_ne _ _))
      rw [so, decide_eq_false (fun h => h rfl)] at t2
      have t3 := tst_ok (x2_ok (op := neD2) (g := xLst aNil) c2 (lst_ok (aNil_ap) (by simp)) (show neD2 (.list []) (.list []) = some (.bool false) from iL_ne [] []))
      exact tor_ok t2 t3
    · have g1 := it_ok (f := xVar 9) (env := ([.sc ns, s1, s2, .fz (nD n o), .fz (nD n w), s5, s6, s7, .fz x, .fz (sD (rs.map fun r => [r])), .fz (iL (chg n o w)), s11, s12, s13, s14, s15, s16, s17, s18] : Ev)) (xVar_fz rfl) it0
      have c1 := comp_ok (vs := [8]) g1 q1 (by rw [List.length_map, sizeLine_eq]; omega)
      have c2 := comp_ok (vs := [8]) g1 q2 (by simp)
      have t2 := tst_ok (x2_ok (op := neD2) (g := xVar 10) (xn1_ok c1 sl) (xVar_fz rfl) (iL_ne _ _))
      rw [so, decide_eq_false (fun h => h rfl)] at t2
      have t3 := tst_ok (x2_ok (op := neD2) (g := xLst aNil) c2 (lst_ok (aNil_ap) (by simp)) (show neD2 (.list []) (.list []) = some (.bool false) from iL_ne [] []))
      exact tor_ok t2 t3
  exact skip_ok (tor_ok t1 go)
end
end K09
set_option Elab.async false
set_option linter.all false
set_option maxRecDepth 100000
namespace K09
open PySem DP
section
variable {n : Nat} {o w : Int → List Int} {ns : List Int} {s1 s2 s3 s4 s5 s6 s7 s8 s9 s10 s11 s12 s13 s14 s15 s16 s17 s18 : Sl}

theorem mixes {ds : List Int} (hd : Dr ds) (b m : Int) (hm : 0 < m) : ∃ mv : Int → Int, ∀ r : Int, F__law_mix [iL ds, .int (b + r), .int m] = .ok (.int (mv r)) := by
  obtain ⟨mv, h⟩ := Classical.axiomOfChoice fun r : Int => mixI hd (b + r) hm
  exact ⟨mv, fun r => (h r).1⟩
theorem y9_ok (N : NW n o w) {ds : List Int} (hd : Dr ds) (t : Int) : ∃ t15 t16, Y9_law ([.sc ns, .fz (iL ds), s2, .fz (nD n o), .fz (nD n w), s5, s6, s7, s8, s9, s10, .fz (.int t), s12, s13, s14, s15, s16, .no, s18] : Ev) = .ok (.nx, ([.sc ns, .fz (iL ds), s2, .fz (nD n o), .fz (nD n w), s5, s6, s7, s8, s9, s10, .fz (.int t), s12, s13, s14, t15, t16, .no, s18] : Ev)) := by
  obtain ⟨m1, h1⟩ := mixes hd (120 + 10 * t) 3 (by decide)
  obtain ⟨m2, h2⟩ := mixes hd (160 + 10 * t) 2 (by decide)
  have a10 : s64 10 = true := rfl
  have rl := R_len n
  have n6 := N.n6
  have q1 := cmp_map (F := PyData.int) (g := gN 17) (ts := tst (x2 eqD2 (xCall 3 F__law_mix (aCons (xVar 1) (aCons (x2 addD (x2 addD (xConst (.int 120)) (x2 mulD (xConst (.int 10)) (xVar 11))) (xVar 17)) (aCons (xConst (.int 3)) (aNil))))) (xConst (.int 0)))) (el := E7_law) (vs := [17]) (env := ([.sc ns, .fz (iL ds), s2, .fz (nD n o), .fz (nD n w), s5, s6, s7, s8, s9, s10, .fz (.int t), s12, s13, s14, s15, s16, .no, s18] : Ev)) (b := fun r => decide (m1 r = 0)) (f := fun r => .int r) (R n) fun r hr => ⟨([.sc ns, .fz (iL ds), s2, .fz (nD n o), .fz (nD n w), s5, s6, s7, s8, s9, s10, .fz (.int t), s12, s13, s14, s15, s16, .fz (.int r), s18] : Ev), rfl,
    tst_ok (x2_ok (f := xCall 3 F__law_mix (aCons (xVar 1) (aCons (x2 addD (x2 addD (xConst (.int 120)) (x2 mulD (xConst (.int 10)) (xVar 11))) (xVar 17)) (aCons (xConst (.int 3)) (aNil))))) (g := xConst (.int 0)) (call_ok (a3_ok (xVar_fz rfl) (x2_ok (f := x2 addD (xConst (.int 120)) (x2 mulD (xConst (.int 10)) (xVar 11))) (g := xVar 17) (x2_ok (f := xConst (.int 120)) (g := x2 mulD (xConst (.int 10)) (xVar 11)) rfl (x2_ok (f := xConst (.int 10)) (g := xVar 11) rfl (xVar_fz rfl) (mul_l a10)) (add_int _ _)) (xVar_fz rfl) (add_int _ _)) (xConst_ap (d := .int 3))) rfl (h1 r)) rfl (eq2_int _ _)), fun _ => xVar_fz rfl, rfl⟩
  have g1 : ∀ s15 s16 : Sl, iIt (xn sortedD2 (aCons (xVar 3) (aNil))) ([.sc ns, .fz (iL ds), s2, .fz (nD n o), .fz (nD n w), s5, s6, s7, s8, s9, s10, .fz (.int t), s12, s13, s14, s15, s16, .no, s18] : Ev) = .ok ((R n).map .int, ([.sc ns, .fz (iL ds), s2, .fz (nD n o), .fz (nD n w), s5, s6, s7, s8, s9, s10, .fz (.int t), s12, s13, s14, s15, s16, .no, s18] : Ev)) := fun s15 s16 => it_ok (xn1_ok (f := xVar 3) (xVar_fz rfl) (sorted_nD n o)) (iL_it (R n))
  have c1 := comp_ok (vs := [17]) (g1 s15 s16) q1 (by have : ((R n).filter fun r => decide (m1 r = 0)).length ≤ (R n).length := List.length_filter_le _ _; rw [List.length_map, sizeLine_eq]; omega)
  generalize hsome : (R n).filter (fun r => decide (m1 r = 0)) = some at c1
  have e1 : sSet 15 (xComp (iIt (xn sortedD2 (aCons (xVar 3) (aNil)))) (gN 17) (tst (x2 eqD2 (xCall 3 F__law_mix (aCons (xVar 1) (aCons (x2 addD (x2 addD (xConst (.int 120)) (x2 mulD (xConst (.int 10)) (xVar 11))) (xVar 17)) (aCons (xConst (.int 3)) (aNil))))) (xConst (.int 0)))) (E7_law) [17]) ([.sc ns, .fz (iL ds), s2, .fz (nD n o), .fz (nD n w), s5, s6, s7, s8, s9, s10, .fz (.int t), s12, s13, s14, s15, s16, .no, s18] : Ev) = .ok (.nx, ([.sc ns, .fz (iL ds), s2, .fz (nD n o), .fz (nD n w), s5, s6, s7, s8, s9, s10, .fz (.int t), s12, s13, s14, .fz (iL some), s16, .no, s18] : Ev)) := set_ok c1
  have q2 := cmp_map (F := PyData.int) (g := gN 17) (ts := tAndF (tst (x2 ninD2 (xVar 17) (xVar 15))) (tst (x2 eqD2 (xCall 3 F__law_mix (aCons (xVar 1) (aCons (x2 addD (x2 addD (xConst (.int 160)) (x2 mulD (xConst (.int 10)) (xVar 11))) (xVar 17)) (aCons (xConst (.int 2)) (aNil))))) (xConst (.int 0))))) (el := E8_law) (vs := [17]) (env := ([.sc ns, .fz (iL ds), s2, .fz (nD n o), .fz (nD n w), s5, s6, s7, s8, s9, s10, .fz (.int t), s12, s13, s14, .fz (iL some), s16, .no, s18] : Ev)) (b := fun r => decide (r ∉ some) && decide (m2 r = 0)) (f := fun r => .int r) (R n) fun r hr => ⟨([.sc ns, .fz (iL ds), s2, .fz (nD n o), .fz (nD n w), s5, s6, s7, s8, s9, s10, .fz (.int t), s12, s13, s14, .fz (iL some), s16, .fz (.int r), s18] : Ev), rfl,
    tand_ok (tst_ok (x2_ok (f := xVar 17) (g := xVar 15) (xVar_fz rfl) (xVar_fz rfl) (nin_iL _ _))) (fun _ => tst_ok (x2_ok (f := xCall 3 F__law_mix (aCons (xVar 1) (aCons (x2 addD (x2 addD (xConst (.int 160)) (x2 mulD (xConst (.int 10)) (xVar 11))) (xVar 17)) (aCons (xConst (.int 2)) (aNil))))) (g := xConst (.int 0)) (call_ok (a3_ok (xVar_fz rfl) (x2_ok (f := x2 addD (xConst (.int 160)) (x2 mulD (xConst (.int 10)) (xVar 11))) (g := xVar 17) (x2_ok (f := xConst (.int 160)) (g := x2 mulD (xConst (.int 10)) (xVar 11)) rfl (x2_ok (f := xConst (.int 10)) (g := xVar 11) rfl (xVar_fz rfl) (mul_l a10)) (add_int _ _)) (xVar_fz rfl) (add_int _ _)) (xConst_ap (d := .int 2))) rfl (h2 r)) rfl (eq2_int _ _))), fun _ => xVar_fz rfl, rfl⟩
  have c2 := comp_ok (vs := [17]) (g1 (.fz (iL some)) s16) q2 (by have : ((R n).filter fun r => decide (r ∉ some) && decide (m2 r = 0)).length ≤ (R n).length := List.length_filter_le _ _; rw [List.length_map, sizeLine_eq]; omega)
  generalize (R n).filter (fun r => decide (r ∉ some) && decide (m2 r = 0)) = more at c2
  refine ⟨.fz (iL some), .fz (iL more), ?_⟩
  unfold Y9_law
  rw [seq_nx e1, seq_nx (set_ok c2)]
  obtain ⟨st, hr⟩ := repr_bool (!cyc n (mixF o w some more))
  have k1 := call_ok (n := 4) (F := F_is_safe) (env := ([.sc ns, .fz (iL ds), s2, .fz (nD n o), .fz (nD n w), s5, s6, s7, s8, s9, s10, .fz (.int t), s12, s13, s14, .fz (iL some), .fz (iL more), .no, s18] : Ev)) (a4_ok (f := xVar 3) (g := xVar 4) (h := xVar 15) (k := xVar 16) (xVar_fz rfl) (xVar_fz rfl) (xVar_fz rfl) (xVar_fz rfl)) rfl (issafe_ok N some more)
  have k2 := call_ok (n := 4) (F := F__law_safe) (env := ([.sc ns, .fz (iL ds), s2, .fz (nD n o), .fz (nD n w), s5, s6, s7, s8, s9, s10, .fz (.int t), s12, s13, s14, .fz (iL some), .fz (iL more), .no, s18] : Ev)) (a4_ok (f := xVar 3) (g := xVar 4) (h := xVar 15) (k := xVar 16) (xVar_fz rfl) (xVar_fz rfl) (xVar_fz rfl) (xVar_fz rfl)) rfl (lsafe_ok N.fo N.fw N.n100 some more)
  have t1 := tst_ok (x2_ok (op := neD2) (xn1_ok k1 hr) (xn1_ok k2 hr) (ne2_str _ _))
  rw [decide_eq_false (fun h => h rfl)] at t1
  exact skip_ok t1
theorem step12 (N : NW n o w) {ds : List Int} (hd : Dr ds) : ∃ t11 t15 t16, sFor (iArgs rng1 (aCons (xConst (.int 4)) (aNil))) (gN 11) (Y9_law) ([.sc ns, .fz (iL ds), s2, .fz (nD n o), .fz (nD n w), s5, s6, s7, s8, s9, s10, s11, s12, s13, s14, s15, s16, .no, s18] : Ev) = .ok (.nx, ([.sc ns, .fz (iL ds), s2, .fz (nD n o), .fz (nD n w), s5, s6, s7, s8, s9, s10, t11, s12, s13, s14, t15, t16, .no, s18] : Ev)) := by
  obtain ⟨e2, h1, t11, t15, t16, h2⟩ := for_inv (g := gN 11) (body := Y9_law) (fun _ env => ∃ t11 t15 t16, env = ([.sc ns, .fz (iL ds), s2, .fz (nD n o), .fz (nD n w), s5, s6, s7, s8, s9, s10, t11, s12, s13, s14, t15, t16, .no, s18] : Ev)) (rngD 0 1 4) 0 ([.sc ns, .fz (iL ds), s2, .fz (nD n o), .fz (nD n w), s5, s6, s7, s8, s9, s10, s11, s12, s13, s14, s15, s16, .no, s18] : Ev) (by
    rintro i x env hx ⟨t11, t15, t16, rfl⟩
    obtain ⟨_, rfl⟩ := rngD_at hx
    obtain ⟨u15, u16, h⟩ := y9_ok N hd (0 + (i : Int) * 1) (ns := ns) (s2 := s2) (s5 := s5) (s6 := s6) (s7 := s7) (s8 := s8) (s9 := s9) (s10 := s10) (s12 := s12) (s13 := s13) (s14 := s14) (s15 := t15) (s16 := t16) (s18 := s18)
    exact ⟨_, _, rfl, h, _, _, _, rfl⟩) ⟨_, _, _, rfl⟩
  refine ⟨t11, t15, t16, ?_⟩
  have e0 : iArgs rng1 (aCons (xConst (.int 4)) (aNil)) ([.sc ns, .fz (iL ds), s2, .fz (nD n o), .fz (nD n w), s5, s6, s7, s8, s9, s10, s11, s12, s13, s14, s15, s16, .no, s18] : Ev) = .ok (rngD 0 1 4, ([.sc ns, .fz (iL ds), s2, .fz (nD n o), .fz (nD n w), s5, s6, s7, s8, s9, s10, s11, s12, s13, s14, s15, s16, .no, s18] : Ev)) := args_ok (a1_ok rfl) rfl
  rw [for_ok e0, h1, h2]

theorem cut_last {α : Type} {xs : List α} (h : xs ≠ []) : cutL xs none (some (-1)) = xs.dropLast := by
  have : 0 < xs.length := List.length_pos_iff.mpr h
  unfold cutL HT.sIx
  simp only
  rw [if_pos (by decide), List.drop_zero, List.dropLast_eq_take]
  congr 1
  omega
theorem step13 (N : NW n o w) : sIf (tAndF (tst (x2 neD2 (xVar 10) (xLst (aNil)))) (tOrF (tst (x2 neD2 (xCall 3 F_are_rounds (aCons (xVar 3) (aCons (xVar 4) (aCons (xLst (aCons (xVar 10) (aNil))) (aNil))))) (xCall 4 F__law_safe (aCons (xVar 3) (aCons (xVar 4) (aCons (xLst (aNil)) (aCons (xVar 10) (aNil)))))))) (tOrF (tst (xCall 3 F_are_rounds (aCons (xVar 3) (aCons (xVar 4) (aCons (x2 addD (xVar 6) (xLst (aCons (xVar 10) (aNil)))) (aNil)))))) (tst (xCall 3 F_are_rounds (aCons (xVar 3) (aCons (xVar 4) (aCons (xSl (xVar 6) (pNo) (pAt (x1 negD (xConst (.int 1))))) (aNil))))))))) (sRet (xConst (.bool false))) (sNext) ([.sc ns, s1, s2, .fz (nD n o), .fz (nD n w), s5, .fz (sD (Lv n o w [])), s7, s8, s9, .fz (iL (chg n o w)), s11, s12, s13, s14, s15, s16, s17, s18] : Ev) = .ok (.nx, ([.sc ns, s1, s2, .fz (nD n o), .fz (nD n w), s5, .fz (sD (Lv n o w [])), s7, s8, s9, .fz (iL (chg n o w)), s11, s12, s13, s14, s15, s16, s17, s18] : Ev)) := by
  have hl := Lv_len N (Ac_nil N)
  have hs := Lv_sub N
  obtain ⟨g, p⟩ := Lv_rounds N
  have c6 := N.chg6
  have t0 := tst_ok (x2_ok (op := neD2) (env := ([.sc ns, s1, s2, .fz (nD n o), .fz (nD n w), s5, .fz (sD (Lv n o w [])), s7, s8, s9, .fz (iL (chg n o w)), s11, s12, s13, s14, s15, s16, s17, s18] : Ev)) (f := xVar 10) (g := xLst aNil) (xVar_fz rfl) (lst_ok aNil_ap (by simp)) (iL_ne0 (chg n o w)))
  by_cases hc : chg n o w = []
  · have : tAndF (tst (x2 neD2 (xVar 10) (xLst (aNil)))) (tOrF (tst (x2 neD2 (xCall 3 F_are_rounds (aCons (xVar 3) (aCons (xVar 4) (aCons (xLst (aCons (xVar 10) (aNil))) (aNil))))) (xCall 4 F__law_safe (aCons (xVar 3) (aCons (xVar 4) (aCons (xLst (aNil)) (aCons (xVar 10) (aNil)))))))) (tOrF (tst (xCall 3 F_are_rounds (aCons (xVar 3) (aCons (xVar 4) (aCons (x2 addD (xVar 6) (xLst (aCons (xVar 10) (aNil)))) (aNil)))))) (tst (xCall 3 F_are_rounds (aCons (xVar 3) (aCons (xVar 4) (aCons (xSl (xVar 6) (pNo) (pAt (x1 negD (xConst (.int 1))))) (aNil)))))))) ([.sc ns, s1, s2, .fz (nD n o), .fz (nD n w), s5, .fz (sD (Lv n o w [])), s7, s8, s9, .fz (iL (chg n o w)), s11, s12, s13, s14, s15, s16, s17, s18] : Ev) = .ok (false, ([.sc ns, s1, s2, .fz (nD n o), .fz (nD n w), s5, .fz (sD (Lv n o w [])), s7, s8, s9, .fz (iL (chg n o w)), s11, s12, s13, s14, s15, s16, s17, s18] : Ev)) := by
      rw [decide_eq_false (fun h => h hc)] at t0
      unfold tAndF
      rw [t0]
      rfl
    exact skip_ok this
  · rw [decide_eq_true hc] at t0
    have cl : 0 < (chg n o w).length := List.length_pos_iff.mpr hc
    have lne : Lv n o w [] ≠ [] := fun z => by
      rw [z] at p
      have := p.length_eq
      simp at this
      exact hc (List.eq_nil_of_length_eq_zero this.symm)
    -- the changed ones at once
    have r1 := arounds_ok N (rows := [chg n o w]) (fun now hn => by rw [List.mem_singleton.mp hn]; omega) (by simp)
    have v1 : arR n o w [] [chg n o w] = !cyc n (mixF o w [] (chg n o w)) := by
      have so : srtZ (chg n o w) = chg n o w := srtZ_eq chg_pw (List.Perm.refl _)
      unfold arR arR
      rw [decide_eq_false hc, decide_eq_true chg_pw]
      cases e : cyc n (mixF o w [] (chg n o w)) with
      | true => rfl
      | false => simp [so]
    rw [v1] at r1
    have r2 := lsafe_ok N.fo N.fw N.n100 [] (chg n o w)
    have k1 := call_ok (n := 3) (F := F_are_rounds) (env := ([.sc ns, s1, s2, .fz (nD n o), .fz (nD n w), s5, .fz (sD (Lv n o w [])), s7, s8, s9, .fz (iL (chg n o w)), s11, s12, s13, s14, s15, s16, s17, s18] : Ev)) (a3_ok (f := xVar 3) (g := xVar 4) (k := xLst (aCons (xVar 10) (aNil))) (xVar_fz rfl) (xVar_fz rfl) (lst_ok (a1_ok (xVar_fz rfl)) (by simp))) rfl r1
    have k2 := call_ok (n := 4) (F := F__law_safe) (env := ([.sc ns, s1, s2, .fz (nD n o), .fz (nD n w), s5, .fz (sD (Lv n o w [])), s7, s8, s9, .fz (iL (chg n o w)), s11, s12, s13, s14, s15, s16, s17, s18] : Ev)) (a4_ok (f := xVar 3) (g := xVar 4) (h := xLst aNil) (k := xVar 10) (xVar_fz rfl) (xVar_fz rfl) (lst_ok aNil_ap (by simp)) (xVar_fz rfl)) rfl r2
    have t1 := tst_ok (x2_ok (op := neD2) k1 k2 (ne2_bool _ _))
    rw [decide_eq_false (fun h => h rfl)] at t1
    -- once more
    have r3 := arounds_ok N (rows := Lv n o w [] ++ [chg n o w]) (fun now hn => by
      rcases List.mem_append.mp hn with q | q
      · have := (hs now q).1; omega
      · rw [List.mem_singleton.mp q]; omega) (by rw [List.length_append, List.length_singleton]; omega)
    have v3 : arR n o w [] (Lv n o w [] ++ [chg n o w]) = false := by
      cases e : arR n o w [] (Lv n o w [] ++ [chg n o w]) with
      | false => rfl
      | true =>
        have := ar_len e
        rw [List.flatten_append, List.length_append, p.length_eq] at this
        simp at this
        exact absurd this hc
    rw [v3] at r3
    have ad : addD (sD (Lv n o w [])) (.list [iL (chg n o w)]) = some (sD (Lv n o w [] ++ [chg n o w])) := by
      unfold sD addD
      simp only
      rw [if_pos (by rw [List.length_map, sizeLine_eq]; simp; omega), List.map_append]
      rfl
    have t2 := tst_ok (call_ok (n := 3) (F := F_are_rounds) (env := ([.sc ns, s1, s2, .fz (nD n o), .fz (nD n w), s5, .fz (sD (Lv n o w [])), s7, s8, s9, .fz (iL (chg n o w)), s11, s12, s13, s14, s15, s16, s17, s18] : Ev)) (a3_ok (f := xVar 3) (g := xVar 4) (k := x2 addD (xVar 6) (xLst (aCons (xVar 10) (aNil)))) (xVar_fz rfl) (xVar_fz rfl) (x2_ok (xVar_fz rfl) (lst_ok (a1_ok (xVar_fz rfl)) (by simp)) ad)) rfl r3)
    -- one too few
    have dl : (Lv n o w []).dropLast.length ≤ 6 := by rw [List.length_dropLast]; omega
    have r4 := arounds_ok N (rows := (Lv n o w []).dropLast) (fun now hn => by have := (hs now (List.dropLast_subset _ hn)).1; omega) (by omega)
    have v4 : arR n o w [] (Lv n o w []).dropLast = false := by
      cases e : arR n o w [] (Lv n o w []).dropLast with
      | false => rfl
      | true =>
        have h1 := ar_len e
        have h2 := p.length_eq
        rw [← List.dropLast_concat_getLast lne, List.flatten_append, List.length_append] at h2
        have h3 : (Lv n o w []).getLast lne ≠ [] := by
          have all : ∀ {rows : List (List Int)} {d : List Int}, GR n o w d rows → ∀ x ∈ rows, x ≠ [] := by
            intro rows
            induction rows with
            | nil => exact fun _ x hx => nomatch hx
            | cons y rows ih =>
              intro d g x hx
              rcases List.mem_cons.mp hx with q | q
              · rw [q]; exact g.1
              · exact ih g.2.2.2 x q
          exact all g _ (List.getLast_mem lne)
        have h4 : 0 < ((Lv n o w []).getLast lne).length := List.length_pos_iff.mpr h3
        simp at h2 h1
        omega
    rw [v4] at r4
    have sl : slD (sD (Lv n o w [])) none (some (-1)) = some (sD (Lv n o w []).dropLast) := by
      show some (PyData.list (cutL ((Lv n o w []).map iL) none (some (-1)))) = _
      rw [cut_last (by simpa using lne)]
      unfold sD
      rw [List.map_dropLast]
    have xs : xSl (xVar 6) (pNo) (pAt (x1 negD (xConst (.int 1)))) ([.sc ns, s1, s2, .fz (nD n o), .fz (nD n w), s5, .fz (sD (Lv n o w [])), s7, s8, s9, .fz (iL (chg n o w)), s11, s12, s13, s14, s15, s16, s17, s18] : Ev) = .ok (sD (Lv n o w []).dropLast, ([.sc ns, s1, s2, .fz (nD n o), .fz (nD n w), s5, .fz (sD (Lv n o w [])), s7, s8, s9, .fz (iL (chg n o w)), s11, s12, s13, s14, s15, s16, s17, s18] : Ev)) := by
      simp only [xSl_ap]
      rw [xVar_fz (d := sD (Lv n o w [])) rfl]
      simp only [Out.bind_ok, pNo_ap, pAt_ap, x1_ap, xConst_ap, neg_int, liftO_some, asI_int]
      rw [sl]
      rfl
    have t3 := tst_ok (call_ok (n := 3) (F := F_are_rounds) (env := ([.sc ns, s1, s2, .fz (nD n o), .fz (nD n w), s5, .fz (sD (Lv n o w [])), s7, s8, s9, .fz (iL (chg n o w)), s11, s12, s13, s14, s15, s16, s17, s18] : Ev)) (a3_ok (f := xVar 3) (g := xVar 4) (xVar_fz rfl) (xVar_fz rfl) xs) rfl r4)
    exact skip_ok (tand_ok t0 fun _ => tor_ok t1 (tor_ok t2 t3))
end
end K09
set_option Elab.async false
set_option linter.all false
set_option maxRecDepth 100000
namespace K09
open PySem DP
/-! ### faults -/
section
variable {A B d : D} {c : Str}
theorem issafe_x (h : ∃ e, F_check_change [A, B] = .exc c d e) (x y : D) : ∃ e, F_is_safe [A, B, x, y] = .exc c d e := by
  obtain ⟨e, h⟩ := h
  unfold F_is_safe runB B_is_safe
  simp [h]
theorem arounds_x (h : ∃ e, F_check_change [A, B] = .exc c d e) (x : D) : ∃ e, F_are_rounds [A, B, x] = .exc c d e := by
  obtain ⟨e, h⟩ := h
  unfold F_are_rounds runB B_are_rounds
  simp [h]
theorem hopsat_x (h : ∃ e, F_check_change [A, B] = .exc c d e) (x : D) : ∃ e, F_hops_at [A, B, x] = .exc c d e := by
  obtain ⟨e, h⟩ := h
  unfold F_hops_at runB B_hops_at
  simp [h]
theorem least_x (h : ∃ e, F_check_change [A, B] = .exc c d e) : ∃ e, F_least_rounds [A, B] = .exc c d e := by
  obtain ⟨e, h⟩ := h
  unfold F_least_rounds runB B_least_rounds
  simp [h]
theorem obo_x (h : ∃ e, F_check_change [A, B] = .exc c d e) : ∃ e, F_one_by_one [A, B] = .exc c d e := by
  obtain ⟨e, h⟩ := h
  unfold F_one_by_one runB B_one_by_one
  simp [h]
theorem try_x (h : ∃ e, F_check_change [A, B] = .exc c d e) {way : Int} (h0 : 0 ≤ way) (h6 : way < 6) :
    (sIf (tst (x2 eqD2 (xVar 0) (xConst (.int 0)))) (sDrop (xCall 2 F_check_change (aCons (xVar 1) (aCons (xVar 2) (aNil))))) (sIf (tst (x2 eqD2 (xVar 0) (xConst (.int 1)))) (sDrop (xCall 4 F_is_safe (aCons (xVar 1) (aCons (xVar 2) (aCons (xLst (aNil)) (aCons (xLst (aNil)) (aNil))))))) (sIf (tst (x2 eqD2 (xVar 0) (xConst (.int 2)))) (sDrop (xCall 3 F_are_rounds (aCons (xVar 1) (aCons (xVar 2) (aCons (xLst (aNil)) (aNil)))))) (sIf (tst (x2 eqD2 (xVar 0) (xConst (.int 3)))) (sDrop (xCall 3 F_hops_at (aCons (xVar 1) (aCons (xVar 2) (aCons (xLst (aNil)) (aNil)))))) (sDrop (xCallFs ((2, F_least_rounds) :: (2, F_one_by_one) :: []) (x2 subD (xVar 0) (xConst (.int 4))) (aCons (xVar 1) (aCons (xVar 2) (aNil))))))))) [.fz (.int way), .fz A, .fz B, .no] = .exc c d [.fz (.int way), .fz A, .fz B, .no] := by
  have z0 : (0 : Nat) ≤ sizeLine := Nat.zero_le _
  have : way = 0 ∨ way = 1 ∨ way = 2 ∨ way = 3 ∨ way = 4 ∨ way = 5 := by omega
  rcases this with rfl | rfl | rfl | rfl | rfl | rfl
  · obtain ⟨e, q⟩ := h
    simp [q]
  · obtain ⟨e, q⟩ := issafe_x h (.list []) (.list [])
    simp [q, z0]
  · obtain ⟨e, q⟩ := arounds_x h (.list [])
    simp [q, z0]
  · obtain ⟨e, q⟩ := hopsat_x h (.list [])
    simp [q, z0]
  · obtain ⟨e, q⟩ := least_x h
    have a0 : L2.atI ([(2, F_least_rounds), (2, F_one_by_one)] : List (Nat × FD)) 0 = some (2, F_least_rounds) := rfl
    simp [xCallFs, a0, q]
  · obtain ⟨e, q⟩ := obo_x h
    have a1 : L2.atI ([(2, F_least_rounds), (2, F_one_by_one)] : List (Nat × FD)) 1 = some (2, F_one_by_one) := rfl
    simp [xCallFs, a1, q]
theorem fault_x (h : ∃ e, F_check_change [A, B] = .exc "BadChange" d e) {way : Int} (h0 : 0 ≤ way) (h6 : way < 6) : F__law_fault [.int way, A, B] = .ok d := by
  have t := try_x h h0 h6
  refine runB_rt (e := [.fz (.int way), .fz A, .fz B, .no]) ?_
  show B__law_fault [.fz (.int way), .fz A, .fz B, .no] = _
  unfold B__law_fault
  refine seq_rt ?_
  unfold sTry
  rw [t]
  rfl
end
/-- nets told by their rows -/
def fL (hs : List (List Int)) (r : Int) : List Int := (hs[r.toNat]?).getD []
def nL (hs : List (List Int)) : D := nD hs.length (fL hs)
theorem fL_few {hs : List (List Int)} (h : ∀ x ∈ hs, x.length ≤ 20) (n : Nat) : Few n (fL hs) := by
  intro r _
  unfold fL
  cases e : hs[r.toNat]? with
  | none => simp
  | some x => exact h x (List.mem_of_getElem? e)
theorem fault_L {hs gs : List (List Int)} {c : Int} (h1 : ∀ x ∈ hs, x.length ≤ 20) (h2 : ∀ x ∈ gs, x.length ≤ 20) (h3 : hs.length ≤ 100) (h4 : gs.length ≤ 100) (hc : chk hs.length (fL hs) gs.length (fL gs) = some c) {way : Int} (h0 : 0 ≤ way) (h6 : way < 6) :
    F__law_fault [.int way, nL hs, nL gs] = .ok (.int c) := by
  have := check_ok h3 h4 (fL_few h1 _) (fL_few h2 _)
  rw [hc] at this
  exact fault_x this h0 h6
abbrev gH : List (List Int) := [[], [0], [0]]
abbrev bads : List (List (List Int)) := [[], [[0]], [[], []], [[], [1]], [[], [2]], [[], [0], [1, 0]]]
theorem bad_chk : ∀ b ∈ bads, chk b.length (fL b) 1 (fL [[0]]) = some 0 ∧ chk 3 (fL gH) b.length (fL b) = some 1 := by decide +kernel
theorem three_chk : chk 3 (fL [[], [2], [1]]) 3 (fL gH) = some 2 ∧ chk 3 (fL gH) 3 (fL [[], [2], [1]]) = some 3 ∧ chk 3 (fL gH) 2 (fL [[], [0]]) = some 1 := by decide +kernel
theorem good_gH : isH 3 (fL gH) = true ∧ cyc 3 (fL gH) = false := by decide +kernel
theorem Good3 : Good 3 (fL gH) := ⟨fL_few (by decide) 3, good_gH.1, good_gH.2⟩
end K09
set_option Elab.async false
set_option linter.all false
set_option maxRecDepth 100000
namespace K09
open PySem DP
section
variable {n : Nat} {o w : Int → List Int} {ns : List Int} {s1 s2 s3 s4 s5 s6 s7 s8 s9 s10 s11 s12 s13 s14 s15 s16 s17 s18 : Sl}
theorem kc_ok {f v : XF} {r : KF} {env : Ev} {x y : D} {l : List (D × D)} (h1 : f env = .ok (x, env)) (h2 : v env = .ok (y, env)) (h3 : r env = .ok (l, env)) : kCons f v r env = .ok ((x, y) :: l, env) := by
  simp only [kCons_ap, h1, h2, h3, Out.bind_ok]
theorem dict_ok {g : KF} {env : Ev} {kvs : List (D × D)} (hs : List (List Int)) (h : g env = .ok (kvs, env)) (e : kvs = (R hs.length).map (entF (fL hs))) : xDict g env = .ok (nL hs, env) := by
  subst e
  have p : DP.pairsOk ((R hs.length).map (entF (fL hs))) = true := by
    unfold DP.pairsOk
    rw [List.all_eq_true]
    intro x hx
    obtain ⟨r, _, rfl⟩ := List.mem_map.mp hx
    rfl
  have m : dMerge [] ((R hs.length).map (entF (fL hs))) = (R hs.length).map (entF (fL hs)) := merge_ent (fL hs) (R hs.length) [] ((R_pw hs.length).imp fun h => by omega)
  simp only [xDict_ap, h, Out.bind_ok]
  rw [if_pos p, m]
  rfl
theorem l0_ok {env : Ev} : xLst aNil env = .ok (iL [], env) := lst_ok aNil_ap (by simp)
theorem l1_ok {env : Ev} (i : Int) : xLst (aCons (xConst (.int i)) aNil) env = .ok (iL [i], env) := lst_ok (a1_ok rfl) (by simp)
theorem l2_ok {env : Ev} (i j : Int) : xLst (aCons (xConst (.int i)) (aCons (xConst (.int j)) aNil)) env = .ok (iL [i, j], env) := lst_ok (a2_ok rfl rfl) (by simp)

theorem step14 : sSet 12 (xDict (kCons (xConst (.int 0)) (xLst (aNil)) (kCons (xConst (.int 1)) (xLst (aCons (xConst (.int 0)) (aNil))) (kCons (xConst (.int 2)) (xLst (aCons (xConst (.int 0)) (aNil))) (kNil))))) ([.sc ns, s1, s2, s3, s4, s5, s6, s7, s8, s9, s10, s11, s12, s13, s14, s15, s16, s17, s18] : Ev) = .ok (.nx, ([.sc ns, s1, s2, s3, s4, s5, s6, s7, s8, s9, s10, s11, .fz (nL gH), s13, s14, s15, s16, s17, s18] : Ev)) := set_ok (dict_ok gH (kc_ok rfl l0_ok (kc_ok rfl (l1_ok 0) (kc_ok rfl (l1_ok 0) rfl))) rfl)

theorem y10_ok {b : List (List Int)} (hb : b ∈ bads) {way : Int} (h0 : 0 ≤ way) (h6 : way < 6) : Y10_law ([.sc ns, s1, s2, s3, s4, s5, s6, s7, s8, s9, s10, s11, .fz (nL gH), .fz (nL b), .fz (.int way), s15, s16, s17, s18] : Ev) = .ok (.nx, ([.sc ns, s1, s2, s3, s4, s5, s6, s7, s8, s9, s10, s11, .fz (nL gH), .fz (nL b), .fz (.int way), s15, s16, s17, s18] : Ev)) := by
  obtain ⟨c1, c2⟩ := bad_chk b hb
  have sm : ∀ b ∈ bads, (∀ x ∈ b, x.length ≤ 20) ∧ b.length ≤ 100 := by decide +kernel
  obtain ⟨m1, m2⟩ := sm b hb
  have f1 := fault_L (hs := b) (gs := [[0]]) m1 (by simp) m2 (by simp) c1 h0 h6
  have f2 := fault_L (hs := gH) (gs := b) (by simp) m1 (by simp) m2 c2 h0 h6
  have dd : xDict (kCons (xConst (.int 0)) (xLst (aCons (xConst (.int 0)) (aNil))) (kNil)) ([.sc ns, s1, s2, s3, s4, s5, s6, s7, s8, s9, s10, s11, .fz (nL gH), .fz (nL b), .fz (.int way), s15, s16, s17, s18] : Ev) = .ok (nL [[0]], ([.sc ns, s1, s2, s3, s4, s5, s6, s7, s8, s9, s10, s11, .fz (nL gH), .fz (nL b), .fz (.int way), s15, s16, s17, s18] : Ev)) := dict_ok [[0]] (kc_ok rfl (l1_ok 0) rfl) rfl
  have t1 := tst_ok (x2_ok (op := neD2) (g := xConst (.int 0)) (call_ok (n := 3) (F := F__law_fault) (a3_ok (f := xVar 14) (g := xVar 13) (xVar_fz rfl) (xVar_fz rfl) dd) rfl f1) rfl (ne2_int _ _))
  have t2 := tst_ok (x2_ok (op := neD2) (env := ([.sc ns, s1, s2, s3, s4, s5, s6, s7, s8, s9, s10, s11, .fz (nL gH), .fz (nL b), .fz (.int way), s15, s16, s17, s18] : Ev)) (g := xConst (.int 1)) (call_ok (n := 3) (F := F__law_fault) (a3_ok (f := xVar 14) (g := xVar 12) (k := xVar 13) (xVar_fz rfl) (xVar_fz rfl) (xVar_fz rfl)) rfl f2) rfl (ne2_int _ _))
  rw [decide_eq_false (fun h => h rfl)] at t1 t2
  exact skip_ok (tor_ok t1 t2)
theorem y11_ok {b : List (List Int)} (hb : b ∈ bads) : ∃ t14, Y11_law ([.sc ns, s1, s2, s3, s4, s5, s6, s7, s8, s9, s10, s11, .fz (nL gH), .fz (nL b), s14, s15, s16, s17, s18] : Ev) = .ok (.nx, ([.sc ns, s1, s2, s3, s4, s5, s6, s7, s8, s9, s10, s11, .fz (nL gH), .fz (nL b), t14, s15, s16, s17, s18] : Ev)) := by
  obtain ⟨e2, h1, t14, h2⟩ := for_inv (g := gN 14) (body := Y10_law) (fun _ env => ∃ s14, env = ([.sc ns, s1, s2, s3, s4, s5, s6, s7, s8, s9, s10, s11, .fz (nL gH), .fz (nL b), s14, s15, s16, s17, s18] : Ev)) (rngD 0 1 6) 0 ([.sc ns, s1, s2, s3, s4, s5, s6, s7, s8, s9, s10, s11, .fz (nL gH), .fz (nL b), s14, s15, s16, s17, s18] : Ev) (by
    rintro i x env hx ⟨s14, rfl⟩
    obtain ⟨hi, rfl⟩ := rngD_at hx
    exact ⟨_, _, rfl, y10_ok hb (by omega) (by omega), _, rfl⟩) ⟨_, rfl⟩
  refine ⟨t14, ?_⟩
  have e0 : iArgs rng1 (aCons (xConst (.int 6)) (aNil)) ([.sc ns, s1, s2, s3, s4, s5, s6, s7, s8, s9, s10, s11, .fz (nL gH), .fz (nL b), s14, s15, s16, s17, s18] : Ev) = .ok (rngD 0 1 6, ([.sc ns, s1, s2, s3, s4, s5, s6, s7, s8, s9, s10, s11, .fz (nL gH), .fz (nL b), s14, s15, s16, s17, s18] : Ev)) := args_ok (a1_ok rfl) rfl
  show sFor _ _ _ _ = _
  rw [for_ok e0, h1, h2]

theorem bads_ok : xLst (aCons (xConst (.dict [])) (aCons (xDict (kCons (xConst (.int 0)) (xLst (aCons (xConst (.int 0)) (aNil))) (kNil))) (aCons (xDict (kCons (xConst (.int 0)) (xLst (aNil)) (kCons (xConst (.int 1)) (xLst (aNil)) (kNil)))) (aCons (xDict (kCons (xConst (.int 0)) (xLst (aNil)) (kCons (xConst (.int 1)) (xLst (aCons (xConst (.int 1)) (aNil))) (kNil)))) (aCons (xDict (kCons (xConst (.int 0)) (xLst (aNil)) (kCons (xConst (.int 1)) (xLst (aCons (xConst (.int 2)) (aNil))) (kNil)))) (aCons (xDict (kCons (xConst (.int 0)) (xLst (aNil)) (kCons (xConst (.int 1)) (xLst (aCons (xConst (.int 0)) (aNil))) (kCons (xConst (.int 2)) (xLst (aCons (xConst (.int 1)) (aCons (xConst (.int 0)) (aNil)))) (kNil))))) (aNil))))))) ([.sc ns, s1, s2, s3, s4, s5, s6, s7, s8, s9, s10, s11, .fz (nL gH), s13, s14, s15, s16, s17, s18] : Ev) = .ok (.list (bads.map nL), ([.sc ns, s1, s2, s3, s4, s5, s6, s7, s8, s9, s10, s11, .fz (nL gH), s13, s14, s15, s16, s17, s18] : Ev)) := by
  have d1 : xDict (kCons (xConst (.int 0)) (xLst (aCons (xConst (.int 0)) (aNil))) (kNil)) ([.sc ns, s1, s2, s3, s4, s5, s6, s7, s8, s9, s10, s11, .fz (nL gH), s13, s14, s15, s16, s17, s18] : Ev) = .ok (nL [[0]], ([.sc ns, s1, s2, s3, s4, s5, s6, s7, s8, s9, s10, s11, .fz (nL gH), s13, s14, s15, s16, s17, s18] : Ev)) := dict_ok [[0]] (kc_ok rfl (l1_ok 0) rfl) rfl
  have d2 : xDict (kCons (xConst (.int 0)) (xLst (aNil)) (kCons (xConst (.int 1)) (xLst (aNil)) (kNil))) ([.sc ns, s1, s2, s3, s4, s5, s6, s7, s8, s9, s10, s11, .fz (nL gH), s13, s14, s15, s16, s17, s18] : Ev) = .ok (nL [[], []], ([.sc ns, s1, s2, s3, s4, s5, s6, s7, s8, s9, s10, s11, .fz (nL gH), s13, s14, s15, s16, s17, s18] : Ev)) := dict_ok [[], []] (kc_ok rfl l0_ok (kc_ok rfl l0_ok rfl)) rfl
  have d3 : xDict (kCons (xConst (.int 0)) (xLst (aNil)) (kCons (xConst (.int 1)) (xLst (aCons (xConst (.int 1)) (aNil))) (kNil))) ([.sc ns, s1, s2, s3, s4, s5, s6, s7, s8, s9, s10, s11, .fz (nL gH), s13, s14, s15, s16, s17, s18] : Ev) = .ok (nL [[], [1]], ([.sc ns, s1, s2, s3, s4, s5, s6, s7, s8, s9, s10, s11, .fz (nL gH), s13, s14, s15, s16, s17, s18] : Ev)) := dict_ok [[], [1]] (kc_ok rfl l0_ok (kc_ok rfl (l1_ok 1) rfl)) rfl
  have d4 : xDict (kCons (xConst (.int 0)) (xLst (aNil)) (kCons (xConst (.int 1)) (xLst (aCons (xConst (.int 2)) (aNil))) (kNil))) ([.sc ns, s1, s2, s3, s4, s5, s6, s7, s8, s9, s10, s11, .fz (nL gH), s13, s14, s15, s16, s17, s18] : Ev) = .ok (nL [[], [2]], ([.sc ns, s1, s2, s3, s4, s5, s6, s7, s8, s9, s10, s11, .fz (nL gH), s13, s14, s15, s16, s17, s18] : Ev)) := dict_ok [[], [2]] (kc_ok rfl l0_ok (kc_ok rfl (l1_ok 2) rfl)) rfl
  have d5 : xDict (kCons (xConst (.int 0)) (xLst (aNil)) (kCons (xConst (.int 1)) (xLst (aCons (xConst (.int 0)) (aNil))) (kCons (xConst (.int 2)) (xLst (aCons (xConst (.int 1)) (aCons (xConst (.int 0)) (aNil)))) (kNil)))) ([.sc ns, s1, s2, s3, s4, s5, s6, s7, s8, s9, s10, s11, .fz (nL gH), s13, s14, s15, s16, s17, s18] : Ev) = .ok (nL [[], [0], [1, 0]], ([.sc ns, s1, s2, s3, s4, s5, s6, s7, s8, s9, s10, s11, .fz (nL gH), s13, s14, s15, s16, s17, s18] : Ev)) := dict_ok [[], [0], [1, 0]] (kc_ok rfl l0_ok (kc_ok rfl (l1_ok 0) (kc_ok rfl (l2_ok 1 0) rfl))) rfl
  have ac : ∀ {f : XF} {l : AF} {x : D} {xs : List D}, f ([.sc ns, s1, s2, s3, s4, s5, s6, s7, s8, s9, s10, s11, .fz (nL gH), s13, s14, s15, s16, s17, s18] : Ev) = .ok (x, ([.sc ns, s1, s2, s3, s4, s5, s6, s7, s8, s9, s10, s11, .fz (nL gH), s13, s14, s15, s16, s17, s18] : Ev)) → l ([.sc ns, s1, s2, s3, s4, s5, s6, s7, s8, s9, s10, s11, .fz (nL gH), s13, s14, s15, s16, s17, s18] : Ev) = .ok (xs, ([.sc ns, s1, s2, s3, s4, s5, s6, s7, s8, s9, s10, s11, .fz (nL gH), s13, s14, s15, s16, s17, s18] : Ev)) → aCons f l ([.sc ns, s1, s2, s3, s4, s5, s6, s7, s8, s9, s10, s11, .fz (nL gH), s13, s14, s15, s16, s17, s18] : Ev) = .ok (x :: xs, ([.sc ns, s1, s2, s3, s4, s5, s6, s7, s8, s9, s10, s11, .fz (nL gH), s13, s14, s15, s16, s17, s18] : Ev)) := fun h1 h2 => by
    simp only [aCons_ap, h1, h2, Out.bind_ok]
  have d0 : xConst (.dict []) ([.sc ns, s1, s2, s3, s4, s5, s6, s7, s8, s9, s10, s11, .fz (nL gH), s13, s14, s15, s16, s17, s18] : Ev) = .ok (nL [], ([.sc ns, s1, s2, s3, s4, s5, s6, s7, s8, s9, s10, s11, .fz (nL gH), s13, s14, s15, s16, s17, s18] : Ev)) := rfl
  exact lst_ok (ac d0 (ac d1 (ac d2 (ac d3 (ac d4 (ac d5 rfl)))))) (by simp)
theorem step15 : ∃ t13 t14, sFor (iIt (xLst (aCons (xConst (.dict [])) (aCons (xDict (kCons (xConst (.int 0)) (xLst (aCons (xConst (.int 0)) (aNil))) (kNil))) (aCons (xDict (kCons (xConst (.int 0)) (xLst (aNil)) (kCons (xConst (.int 1)) (xLst (aNil)) (kNil)))) (aCons (xDict (kCons (xConst (.int 0)) (xLst (aNil)) (kCons (xConst (.int 1)) (xLst (aCons (xConst (.int 1)) (aNil))) (kNil)))) (aCons (xDict (kCons (xConst (.int 0)) (xLst (aNil)) (kCons (xConst (.int 1)) (xLst (aCons (xConst (.int 2)) (aNil))) (kNil)))) (aCons (xDict (kCons (xConst (.int 0)) (xLst (aNil)) (kCons (xConst (.int 1)) (xLst (aCons (xConst (.int 0)) (aNil))) (kCons (xConst (.int 2)) (xLst (aCons (xConst (.int 1)) (aCons (xConst (.int 0)) (aNil)))) (kNil))))) (aNil))))))))) (gN 13) (Y11_law) ([.sc ns, s1, s2, s3, s4, s5, s6, s7, s8, s9, s10, s11, .fz (nL gH), s13, s14, s15, s16, s17, s18] : Ev) = .ok (.nx, ([.sc ns, s1, s2, s3, s4, s5, s6, s7, s8, s9, s10, s11, .fz (nL gH), t13, t14, s15, s16, s17, s18] : Ev)) := by
  have key : ∀ (L : List (List (List Int))) (s13 s14 : Sl), (∀ b ∈ L, b ∈ bads) → ∃ t13 t14, forL (gN 13) Y11_law (L.map nL) ([.sc ns, s1, s2, s3, s4, s5, s6, s7, s8, s9, s10, s11, .fz (nL gH), s13, s14, s15, s16, s17, s18] : Ev) = .ok (.nx, ([.sc ns, s1, s2, s3, s4, s5, s6, s7, s8, s9, s10, s11, .fz (nL gH), t13, t14, s15, s16, s17, s18] : Ev)) := by
    intro L
    induction L with
    | nil => exact fun s13 s14 _ => ⟨s13, s14, rfl⟩
    | cons b L ih =>
      intro s13 s14 h
      obtain ⟨u, hu⟩ := y11_ok (ns := ns) (s1 := s1) (s2 := s2) (s3 := s3) (s4 := s4) (s5 := s5) (s6 := s6) (s7 := s7) (s8 := s8) (s9 := s9) (s10 := s10) (s11 := s11) (s14 := s14) (s15 := s15) (s16 := s16) (s17 := s17) (s18 := s18) (h b List.mem_cons_self)
      obtain ⟨t13, t14, ht⟩ := ih (.fz (nL b)) u fun x hx => h x (List.mem_cons_of_mem _ hx)
      refine ⟨t13, t14, ?_⟩
      rw [List.map_cons]
      conv => lhs; unfold forL
      simp only [gN_ap]
      show ((Y11_law ([.sc ns, s1, s2, s3, s4, s5, s6, s7, s8, s9, s10, s11, .fz (nL gH), .fz (nL b), s14, s15, s16, s17, s18] : Ev)).bind _) = _
      rw [hu]
      exact ht
  obtain ⟨t13, t14, h⟩ := key bads s13 s14 fun b h => h
  refine ⟨t13, t14, ?_⟩
  rw [for_ok (it_ok bads_ok (itD_l))]
  exact h

theorem y12_ok {way : Int} (h0 : 0 ≤ way) (h6 : way < 6) : Y12_law ([.sc ns, s1, s2, s3, s4, s5, s6, s7, s8, s9, s10, s11, .fz (nL gH), s13, .fz (.int way), s15, s16, s17, s18] : Ev) = .ok (.nx, ([.sc ns, s1, s2, s3, s4, s5, s6, s7, s8, s9, s10, s11, .fz (nL gH), s13, .fz (.int way), s15, s16, s17, s18] : Ev)) := by
  obtain ⟨c1, c2, c3⟩ := three_chk
  have f1 := fault_L (hs := [[], [2], [1]]) (gs := gH) (by simp) (by simp) (by simp) (by simp) c1 h0 h6
  have f2 := fault_L (hs := gH) (gs := [[], [2], [1]]) (by simp) (by simp) (by simp) (by simp) c2 h0 h6
  have f3 := fault_L (hs := gH) (gs := [[], [0]]) (by simp) (by simp) (by simp) (by simp) c3 h0 h6
  have e1 : xDict (kCons (xConst (.int 0)) (xLst (aNil)) (kCons (xConst (.int 1)) (xLst (aCons (xConst (.int 2)) (aNil))) (kCons (xConst (.int 2)) (xLst (aCons (xConst (.int 1)) (aNil))) (kNil)))) ([.sc ns, s1, s2, s3, s4, s5, s6, s7, s8, s9, s10, s11, .fz (nL gH), s13, .fz (.int way), s15, s16, s17, s18] : Ev) = .ok (nL [[], [2], [1]], ([.sc ns, s1, s2, s3, s4, s5, s6, s7, s8, s9, s10, s11, .fz (nL gH), s13, .fz (.int way), s15, s16, s17, s18] : Ev)) := dict_ok [[], [2], [1]] (kc_ok rfl l0_ok (kc_ok rfl (l1_ok 2) (kc_ok rfl (l1_ok 1) rfl))) rfl
  have e2 : xDict (kCons (xConst (.int 0)) (xLst (aNil)) (kCons (xConst (.int 1)) (xLst (aCons (xConst (.int 0)) (aNil))) (kNil))) ([.sc ns, s1, s2, s3, s4, s5, s6, s7, s8, s9, s10, s11, .fz (nL gH), s13, .fz (.int way), s15, s16, s17, s18] : Ev) = .ok (nL [[], [0]], ([.sc ns, s1, s2, s3, s4, s5, s6, s7, s8, s9, s10, s11, .fz (nL gH), s13, .fz (.int way), s15, s16, s17, s18] : Ev)) := dict_ok [[], [0]] (kc_ok rfl l0_ok (kc_ok rfl (l1_ok 0) rfl)) rfl
  have t1 := tst_ok (x2_ok (op := neD2) (g := xConst (.int 2)) (call_ok (n := 3) (F := F__law_fault) (a3_ok (f := xVar 14) (k := xVar 12) (xVar_fz rfl) e1 (xVar_fz rfl)) rfl f1) rfl (ne2_int _ _))
  have t2 := tst_ok (x2_ok (op := neD2) (g := xConst (.int 3)) (call_ok (n := 3) (F := F__law_fault) (a3_ok (f := xVar 14) (g := xVar 12) (xVar_fz rfl) (xVar_fz rfl) e1) rfl f2) rfl (ne2_int _ _))
  have t3 := tst_ok (x2_ok (op := neD2) (g := xConst (.int 1)) (call_ok (n := 3) (F := F__law_fault) (a3_ok (f := xVar 14) (g := xVar 12) (xVar_fz rfl) (xVar_fz rfl) e2) rfl f3) rfl (ne2_int _ _))
  rw [decide_eq_false (fun h => h rfl)] at t1 t2 t3
  exact skip_ok (tor_ok t1 (tor_ok t2 t3))
theorem step16 : ∃ t14, sFor (iArgs rng1 (aCons (xConst (.int 6)) (aNil))) (gN 14) (Y12_law) ([.sc ns, s1, s2, s3, s4, s5, s6, s7, s8, s9, s10, s11, .fz (nL gH), s13, s14, s15, s16, s17, s18] : Ev) = .ok (.nx, ([.sc ns, s1, s2, s3, s4, s5, s6, s7, s8, s9, s10, s11, .fz (nL gH), s13, t14, s15, s16, s17, s18] : Ev)) := by
  obtain ⟨e2, h1, t14, h2⟩ := for_inv (g := gN 14) (body := Y12_law) (fun _ env => ∃ s14, env = ([.sc ns, s1, s2, s3, s4, s5, s6, s7, s8, s9, s10, s11, .fz (nL gH), s13, s14, s15, s16, s17, s18] : Ev)) (rngD 0 1 6) 0 ([.sc ns, s1, s2, s3, s4, s5, s6, s7, s8, s9, s10, s11, .fz (nL gH), s13, s14, s15, s16, s17, s18] : Ev) (by
    rintro i x env hx ⟨s14, rfl⟩
    obtain ⟨hi, rfl⟩ := rngD_at hx
    exact ⟨_, _, rfl, y12_ok (by omega) (by omega), _, rfl⟩) ⟨_, rfl⟩
  refine ⟨t14, ?_⟩
  have e0 : iArgs rng1 (aCons (xConst (.int 6)) (aNil)) ([.sc ns, s1, s2, s3, s4, s5, s6, s7, s8, s9, s10, s11, .fz (nL gH), s13, s14, s15, s16, s17, s18] : Ev) = .ok (rngD 0 1 6, ([.sc ns, s1, s2, s3, s4, s5, s6, s7, s8, s9, s10, s11, .fz (nL gH), s13, s14, s15, s16, s17, s18] : Ev)) := args_ok (a1_ok rfl) rfl
  rw [for_ok e0, h1, h2]

theorem step17 {O V : D} {st : Str} (h : reprD2 [.tuple [O, V]] = some (.str st)) : (xBool (tAndF (tst (x2 eqD2 (xn reprD2 (aCons (xTup (aCons (xVar 3) (aCons (xVar 4) (aNil)))) (aNil))) (xVar 5))) (tAndF (tst (x2 eqD2 (xCall 2 F_least_rounds (aCons (xVar 12) (aCons (xVar 12) (aNil)))) (xLst (aNil)))) (tst (x2 eqD2 (xCall 2 F_one_by_one (aCons (xVar 12) (aCons (xVar 12) (aNil)))) (xLst (aNil))))))) ([.sc ns, s1, s2, .fz O, .fz V, .fz (.str st), s6, s7, s8, s9, s10, s11, .fz (nL gH), s13, s14, s15, s16, s17, s18] : Ev) = .ok (.bool true, ([.sc ns, s1, s2, .fz O, .fz V, .fz (.str st), s6, s7, s8, s9, s10, s11, .fz (nL gH), s13, s14, s15, s16, s17, s18] : Ev)) := by
  have N3 : NW 3 (fL gH) (fL gH) := NW.of (by omega) Good3 Good3
  have c0 : chg 3 (fL gH) (fL gH) = [] := by
    unfold chg
    exact List.filter_eq_nil_iff.mpr fun x _ => by simp
  have l0 : lft 3 (fL gH) (fL gH) [] = [] := by unfold lft; rw [c0]; rfl
  have lr := least_ok N3
  rw [Lv_nil N3 l0] at lr
  obtain ⟨ds, h1, h2, h3⟩ := obo_ok N3
  rw [c0] at h3
  have hd : ds = [] := List.eq_nil_of_length_eq_zero h3.length_eq
  subst hd
  have lr' : F_least_rounds [nL gH, nL gH] = .ok (iL []) := lr
  have h1' : F_one_by_one [nL gH, nL gH] = .ok (iL []) := h1
  have t1 := tst_ok (x2_ok (op := eqD2) (env := ([.sc ns, s1, s2, .fz O, .fz V, .fz (.str st), s6, s7, s8, s9, s10, s11, .fz (nL gH), s13, s14, s15, s16, s17, s18] : Ev)) (f := xn reprD2 (aCons (xTup (aCons (xVar 3) (aCons (xVar 4) (aNil)))) (aNil))) (g := xVar 5) (xn1_ok (tup_ok (a2_ok (xVar_fz rfl) (xVar_fz rfl)) (by simp)) h) (xVar_fz rfl) (eq2_str _ _))
  have t2 := tst_ok (x2_ok (op := eqD2) (env := ([.sc ns, s1, s2, .fz O, .fz V, .fz (.str st), s6, s7, s8, s9, s10, s11, .fz (nL gH), s13, s14, s15, s16, s17, s18] : Ev)) (f := xCall 2 F_least_rounds (aCons (xVar 12) (aCons (xVar 12) (aNil)))) (g := xLst aNil) (call_ok (a2_ok (xVar_fz rfl) (xVar_fz rfl)) rfl lr') l0_ok (iL_eq _ _))
  have t3 := tst_ok (x2_ok (op := eqD2) (env := ([.sc ns, s1, s2, .fz O, .fz V, .fz (.str st), s6, s7, s8, s9, s10, s11, .fz (nL gH), s13, s14, s15, s16, s17, s18] : Ev)) (f := xCall 2 F_one_by_one (aCons (xVar 12) (aCons (xVar 12) (aNil)))) (g := xLst aNil) (call_ok (a2_ok (xVar_fz rfl) (xVar_fz rfl)) rfl h1') l0_ok (iL_eq _ _))
  rw [decide_eq_true rfl] at t1 t2 t3
  have t := tand_ok t1 fun _ => tand_ok t2 fun _ => t3
  simp only [xBool_ap, t, Out.bind_ok]
  rfl
end

theorem good (ns : List Int) (hn : ns.length ≤ 63) : F_law ns = .ok (.bool true) := by
  obtain ⟨ds, hdr, hd⟩ := draws_ok hn
  obtain ⟨v, hv, v0, v6⟩ := mixI hd 0 (m := 6) (by decide)
  obtain ⟨n, hN⟩ : ∃ n : Nat, (n : Int) = 1 + v := ⟨(1 + v).toNat, by omega⟩
  obtain ⟨o, ho, go⟩ := lhops_ok hd 10 (n := n) (by omega) (by omega)
  obtain ⟨w, hw, gw⟩ := lhops_ok hd 60 (n := n) (by omega) (by omega)
  have N : NW n o w := NW.of (by omega) go gw
  obtain ⟨st, hst⟩ := repr_pair (by omega) go gw
  obtain ⟨rs, r1, r2, r3⟩ := obo_ok N
  have a0 : sSet 1 (xCallS 0 F__law_draws) ([.sc ns, .no, .no, .no, .no, .no, .no, .no, .no, .no, .no, .no, .no, .no, .no, .no, .no, .no, .no] : Ev) = .ok (.nx, ([.sc ns, .fz (iL ds), .no, .no, .no, .no, .no, .no, .no, .no, .no, .no, .no, .no, .no, .no, .no, .no, .no] : Ev)) := by
    have q : xCallS 0 F__law_draws ([.sc ns, .no, .no, .no, .no, .no, .no, .no, .no, .no, .no, .no, .no, .no, .no, .no, .no, .no, .no] : Ev) = .ok (iL ds, ([.sc ns, .no, .no, .no, .no, .no, .no, .no, .no, .no, .no, .no, .no, .no, .no, .no, .no, .no, .no] : Ev)) := by
      rw [xCallS_ap (ns := ns) (env := ([.sc ns, .no, .no, .no, .no, .no, .no, .no, .no, .no, .no, .no, .no, .no, .no, .no, .no, .no, .no] : Ev)) rfl, hdr]
      rfl
    exact set_ok q
  have a1 : sSet 2 (x2 addD (xConst (.int 1)) (xCall 3 F__law_mix (aCons (xVar 1) (aCons (xConst (.int 0)) (aCons (xConst (.int 6)) (aNil)))))) ([.sc ns, .fz (iL ds), .no, .no, .no, .no, .no, .no, .no, .no, .no, .no, .no, .no, .no, .no, .no, .no, .no] : Ev) = .ok (.nx, ([.sc ns, .fz (iL ds), .fz (.int (n : Int)), .no, .no, .no, .no, .no, .no, .no, .no, .no, .no, .no, .no, .no, .no, .no, .no] : Ev)) := by
    rw [hN]
    exact set_ok (x2_ok (f := xConst (.int 1)) rfl (call_ok (a3_ok (f := xVar 1) (g := xConst (.int 0)) (k := xConst (.int 6)) (xVar_fz rfl) rfl rfl) rfl hv) (add_int _ _))
  have a2 : sSet 3 (xCall 3 F__law_hops (aCons (xVar 1) (aCons (xConst (.int 10)) (aCons (xVar 2) (aNil))))) ([.sc ns, .fz (iL ds), .fz (.int (n : Int)), .no, .no, .no, .no, .no, .no, .no, .no, .no, .no, .no, .no, .no, .no, .no, .no] : Ev) = .ok (.nx, ([.sc ns, .fz (iL ds), .fz (.int (n : Int)), .fz (nD n o), .no, .no, .no, .no, .no, .no, .no, .no, .no, .no, .no, .no, .no, .no, .no] : Ev)) := set_ok (call_ok (a3_ok (f := xVar 1) (g := xConst (.int 10)) (k := xVar 2) (xVar_fz rfl) rfl (xVar_fz rfl)) rfl ho)
  have a3 : sSet 4 (xCall 3 F__law_hops (aCons (xVar 1) (aCons (xConst (.int 60)) (aCons (xVar 2) (aNil))))) ([.sc ns, .fz (iL ds), .fz (.int (n : Int)), .fz (nD n o), .no, .no, .no, .no, .no, .no, .no, .no, .no, .no, .no, .no, .no, .no, .no] : Ev) = .ok (.nx, ([.sc ns, .fz (iL ds), .fz (.int (n : Int)), .fz (nD n o), .fz (nD n w), .no, .no, .no, .no, .no, .no, .no, .no, .no, .no, .no, .no, .no, .no] : Ev)) := set_ok (call_ok (a3_ok (f := xVar 1) (g := xConst (.int 60)) (k := xVar 2) (xVar_fz rfl) rfl (xVar_fz rfl)) rfl hw)
  have a4 : sSet 5 (xn reprD2 (aCons (xTup (aCons (xVar 3) (aCons (xVar 4) (aNil)))) (aNil))) ([.sc ns, .fz (iL ds), .fz (.int (n : Int)), .fz (nD n o), .fz (nD n w), .no, .no, .no, .no, .no, .no, .no, .no, .no, .no, .no, .no, .no, .no] : Ev) = .ok (.nx, ([.sc ns, .fz (iL ds), .fz (.int (n : Int)), .fz (nD n o), .fz (nD n w), .fz (.str st), .no, .no, .no, .no, .no, .no, .no, .no, .no, .no, .no, .no, .no] : Ev)) := set_ok (xn1_ok (tup_ok (a2_ok (xVar_fz rfl) (xVar_fz rfl)) (by simp)) hst)
  have a5 : sSet 6 (xCall 2 F_least_rounds (aCons (xVar 3) (aCons (xVar 4) (aNil)))) ([.sc ns, .fz (iL ds), .fz (.int (n : Int)), .fz (nD n o), .fz (nD n w), .fz (.str st), .no, .no, .no, .no, .no, .no, .no, .no, .no, .no, .no, .no, .no] : Ev) = .ok (.nx, ([.sc ns, .fz (iL ds), .fz (.int (n : Int)), .fz (nD n o), .fz (nD n w), .fz (.str st), .fz (sD (Lv n o w [])), .no, .no, .no, .no, .no, .no, .no, .no, .no, .no, .no, .no] : Ev)) := set_ok (call_ok (a2_ok (xVar_fz rfl) (xVar_fz rfl)) rfl (least_ok N))
  have a7 : sSet 7 (xLst (aNil)) ([.sc ns, .fz (iL ds), .fz (.int (n : Int)), .fz (nD n o), .fz (nD n w), .fz (.str st), .fz (sD (Lv n o w [])), .no, .no, .no, .no, .no, .no, .no, .no, .no, .no, .no, .no] : Ev) = .ok (.nx, ([.sc ns, .fz (iL ds), .fz (.int (n : Int)), .fz (nD n o), .fz (nD n w), .fz (.str st), .fz (sD (Lv n o w [])), .fz (iL []), .no, .no, .no, .no, .no, .no, .no, .no, .no, .no, .no] : Ev)) := set_ok l0_ok
  obtain ⟨d', t8, t15, l8, f8⟩ := loop8 (ns := ns) (s1 := .fz (iL ds)) (s2 := .fz (.int (n : Int))) (s5 := .fz (.str st)) (s6 := .fz (sD (Lv n o w []))) (s9 := .no) (s10 := .no) (s11 := .no) (s12 := .no) (s13 := .no) (s14 := .no) (s16 := .no) (s17 := .no) N (Lv n o w []) [] .no .no (Lv_rounds N).1 (fun now h => (Lv_sub N now h).1) (by have := Lv_len N (Ac_nil N); simp; omega) (.inl rfl)
  have a8 : sFor (iIt (xVar 6)) (gN 8) (Y3_law) ([.sc ns, .fz (iL ds), .fz (.int (n : Int)), .fz (nD n o), .fz (nD n w), .fz (.str st), .fz (sD (Lv n o w [])), .fz (iL []), .no, .no, .no, .no, .no, .no, .no, .no, .no, .no, .no] : Ev) = .ok (.nx, ([.sc ns, .fz (iL ds), .fz (.int (n : Int)), .fz (nD n o), .fz (nD n w), .fz (.str st), .fz (sD (Lv n o w [])), (.fz (iL d')), t8, .no, .no, .no, .no, .no, .no, t15, .no, .no, .no] : Ev)) := by
    rw [for_ok (it_ok (f := xVar 6) (xVar_fz rfl) (show itD (sD (Lv n o w [])) = some ((Lv n o w []).map iL) from rfl))]
    exact l8
  have a9 : sSet 9 (xCall 2 F_one_by_one (aCons (xVar 3) (aCons (xVar 4) (aNil)))) ([.sc ns, .fz (iL ds), .fz (.int (n : Int)), .fz (nD n o), .fz (nD n w), .fz (.str st), .fz (sD (Lv n o w [])), (.fz (iL d')), t8, .no, .no, .no, .no, .no, .no, t15, .no, .no, .no] : Ev) = .ok (.nx, ([.sc ns, .fz (iL ds), .fz (.int (n : Int)), .fz (nD n o), .fz (nD n w), .fz (.str st), .fz (sD (Lv n o w [])), (.fz (iL d')), t8, .fz (sD (rs.map fun r => [r])), .no, .no, .no, .no, .no, t15, .no, .no, .no] : Ev)) := set_ok (call_ok (a2_ok (xVar_fz rfl) (xVar_fz rfl)) rfl r1)

  obtain ⟨u11, u15, u16, a12⟩ := step12 (ns := ns) (s2 := .fz (.int (n : Int))) (s5 := .fz (.str st)) (s6 := .fz (sD (Lv n o w []))) (s7 := .fz (iL d')) (s8 := t8) (s9 := .fz (sD (rs.map fun r => [r]))) (s10 := .fz (iL (chg n o w))) (s12 := .no) (s13 := .no) (s14 := .no) (s15 := t15) (s16 := .no) (s18 := .no) (s11 := .no) N hd
  obtain ⟨u13, u14, a15⟩ := step15 (ns := ns) (s1 := .fz (iL ds)) (s2 := .fz (.int (n : Int))) (s3 := .fz (nD n o)) (s4 := .fz (nD n w)) (s5 := .fz (.str st)) (s6 := .fz (sD (Lv n o w []))) (s7 := .fz (iL d')) (s8 := t8) (s9 := .fz (sD (rs.map fun r => [r]))) (s10 := .fz (iL (chg n o w))) (s11 := u11) (s13 := .no) (s14 := .no) (s15 := u15) (s16 := u16) (s17 := .no) (s18 := .no)
  obtain ⟨z14, a16⟩ := step16 (ns := ns) (s1 := .fz (iL ds)) (s2 := .fz (.int (n : Int))) (s3 := .fz (nD n o)) (s4 := .fz (nD n w)) (s5 := .fz (.str st)) (s6 := .fz (sD (Lv n o w []))) (s7 := .fz (iL d')) (s8 := t8) (s9 := .fz (sD (rs.map fun r => [r]))) (s10 := .fz (iL (chg n o w))) (s11 := u11) (s13 := u13) (s14 := u14) (s15 := u15) (s16 := u16) (s17 := .no) (s18 := .no)
  have a17 := step17 (ns := ns) (s1 := .fz (iL ds)) (s2 := .fz (.int (n : Int))) (s6 := .fz (sD (Lv n o w []))) (s7 := .fz (iL d')) (s8 := t8) (s9 := .fz (sD (rs.map fun r => [r]))) (s10 := .fz (iL (chg n o w))) (s11 := u11) (s13 := u13) (s14 := z14) (s15 := u15) (s16 := u16) (s17 := .no) (s18 := .no) hst
  refine runS_rt (e := [.sc ns, .fz (iL ds), .fz (.int (n : Int)), .fz (nD n o), .fz (nD n w), .fz (.str st), .fz (sD (Lv n o w [])), .fz (iL d'), t8, .fz (sD (rs.map fun r => [r])), .fz (iL (chg n o w)), u11, .fz (nL gH), u13, z14, u15, u16, .no, .no]) ?_
  show B_law ([.sc ns, .no, .no, .no, .no, .no, .no, .no, .no, .no, .no, .no, .no, .no, .no, .no, .no, .no, .no] : Ev) = _
  unfold B_law
  rw [seq_nx a0, seq_nx a1, seq_nx a2, seq_nx a3, seq_nx a4, seq_nx a5, seq_nx (step6 N), seq_nx a7, seq_nx a8, seq_nx a9, seq_nx (step10 N), seq_nx (step11 N r2 r3 f8), seq_nx a12, seq_nx (step13 N), seq_nx step14, seq_nx a15, seq_nx a16]
  simp only [sRet_ap, a17, Out.bind_ok]
end K09
open PySem PySem.W PyProof.Rows
set_option maxHeartbeats 0 in
theorem PySem.Challenge.cw_waysflooded_k09_main_rounds_that_never_l_holds : PySem.Challenge.rw_waysflooded_k09_main_rounds_that_never_l.Holds := by
  w_on; o_law; k_head; (case hw => w_witness2)
  k_fill
  refine DP.walk_law (l := PySem.Challenge.rw_waysflooded_k09_main_rounds_that_never_l) (n := 63) (k := 14) (x := "script") (F := K09.F_law) rfl (by decide) rfl ⟨rfl, by decide, by decide⟩ (fun w h Y => PySem.W.kIn_of Y) ?F K09.good
  case F =>
    intro w mg fa h KX G hmg
    refine' K09.all_mk KX G hmg ?a_NetError ?a_BadChange ?xL_NetError ?sa_NetError ?ga_NetError ?gg_NetError ?nb_NetError ?iC_NetError ?kC_NetError ?eC_NetError ?vC_NetError ?tC_NetError ?hC_NetError ?mB_NetError ?su_NetError ?xL_BadChange ?sa_BadChange ?ga_BadChange ?gg_BadChange ?nb_BadChange ?iC_BadChange ?kC_BadChange ?eC_BadChange ?vC_BadChange ?tC_BadChange ?hC_BadChange ?mB_BadChange ?su_BadChange ?el ?ec ?eh ?ev ?ef ?ecl ?ecB ?esup ?etp ?etop ?etI ?ex_BadChange_BadChange ?a0 ?l0 ?c0 ?k0 ?a1 ?l1 ?c1 ?k1 ?a2 ?l2 ?c2 ?k2 ?a3 ?l3 ?c3 ?k3 ?a4 ?l4 ?c4 ?k4 ?a5 ?l5 ?c5 ?k5 ?a6 ?l6 ?c6 ?k6 ?a7 ?l7 ?c7 ?k7 ?a8 ?l8 ?c8 ?k8 ?a9 ?l9 ?c9 ?k9 ?a10 ?l10 ?c10 ?k10 ?a11 ?l11 ?c11 ?k11 ?a12 ?l12 ?c12 ?k12 ?a13 ?l13 ?c13 ?k13 ?a14 ?l14 ?c14 ?k14 ?a15 ?l15 ?c15 ?k15 ?a16 ?l16 ?c16 ?k16 ?a17 ?l17 ?c17 ?k17 ?a18 ?l18 ?c18 ?k18 ?a19 ?l19 ?c19 ?k19 ?a20 ?l20 ?c20 ?k20 ?a21 ?l21 ?c21 ?k21 ?a22 ?l22 ?c22 ?k22 ?a23 ?l23 ?c23 ?k23 ?z_len ?z_list ?z_sorted ?z_set ?z_all ?z_any ?z_min ?z_range ?z_abs ?z_int ?z_dict ?z_tuple ?z_repr ?m_MOST_ROUTERS
    (case a_NetError => k_is)
    (case a_BadChange => k_is)
    (case xL_NetError => k_is)
    (case sa_NetError => k_is)
    (case ga_NetError => k_is)
    (case gg_NetError => k_is)
    (case nb_NetError => k_is)
    (case iC_NetError => k_is)
    (case kC_NetError => k_is)
    (case eC_NetError => k_is)
    (case vC_NetError => k_is)
    (case tC_NetError => k_is)
    (case hC_NetError => k_is)
    (case mB_NetError => first | k_is | ks_is | kernel_rfl | rfl)
    (case su_NetError => first | k_is | ks_is | kernel_rfl | rfl)
    (case xL_BadChange => k_is)
    (case sa_BadChange => k_is)
    (case ga_BadChange => k_is)
    (case gg_BadChange => k_is)
    (case nb_BadChange => k_is)
    (case iC_BadChange => k_is)
    (case kC_BadChange => k_is)
    (case eC_BadChange => k_is)
    (case vC_BadChange => k_is)
    (case tC_BadChange => k_is)
    (case hC_BadChange => k_is)
    (case mB_BadChange => first | k_is | ks_is | kernel_rfl | rfl)
    (case su_BadChange => first | k_is | ks_is | kernel_rfl | rfl)
    (case el => k_is)
    (case ec => k_is)
    (case eh => k_is)
    (case ev => rfl)
    (case ef => first | rfl | decide +kernel)
    (case ecl => k_is)
    (case ecB => k_is)
    (case esup => k_is)
    (case etp => k_is)
    (case etop => first | rfl | decide +kernel)
    (case etI => k_is)
    (case ex_BadChange_BadChange => first | k_is | kernel_rfl | rfl)
    (case a0 => k_is)
    (case l0 => k_is)
    (case c0 => k_is)
    (case k0 => k_is)
    (case a1 => k_is)
    (case l1 => k_is)
    (case c1 => k_is)
    (case k1 => k_is)
    (case a2 => k_is)
    (case l2 => k_is)
    (case c2 => k_is)
    (case k2 => k_is)
    (case a3 => k_is)
    (case l3 => k_is)
    (case c3 => k_is)
    (case k3 => k_is)
    (case a4 => k_is)
    (case l4 => k_is)
    (case c4 => k_is)
    (case k4 => k_is)
    (case a5 => k_is)
    (case l5 => k_is)
    (case c5 => k_is)
    (case k5 => k_is)
    (case a6 => k_is)
    (case l6 => k_is)
    (case c6 => k_is)
    (case k6 => k_is)
    (case a7 => k_is)
    (case l7 => k_is)
    (case c7 => k_is)
    (case k7 => k_is)
    (case a8 => k_is)
    (case l8 => k_is)
    (case c8 => k_is)
    (case k8 => k_is)
    (case a9 => k_is)
    (case l9 => k_is)
    (case c9 => k_is)
    (case k9 => k_is)
    (case a10 => k_is)
    (case l10 => k_is)
    (case c10 => k_is)
    (case k10 => k_is)
    (case a11 => k_is)
    (case l11 => k_is)
    (case c11 => k_is)
    (case k11 => k_is)
    (case a12 => k_is)
    (case l12 => k_is)
    (case c12 => k_is)
    (case k12 => k_is)
    (case a13 => k_is)
    (case l13 => k_is)
    (case c13 => k_is)
    (case k13 => k_is)
    (case a14 => k_is)
    (case l14 => k_is)
    (case c14 => k_is)
    (case k14 => k_is)
    (case a15 => k_is)
    (case l15 => k_is)
    (case c15 => k_is)
    (case k15 => k_is)
    (case a16 => k_is)
    (case l16 => k_is)
    (case c16 => k_is)
    (case k16 => k_is)
    (case a17 => k_is)
    (case l17 => k_is)
    (case c17 => k_is)
    (case k17 => k_is)
    (case a18 => k_is)
    (case l18 => k_is)
    (case c18 => k_is)
    (case k18 => k_is)
    (case a19 => k_is)
    (case l19 => k_is)
    (case c19 => k_is)
    (case k19 => k_is)
    (case a20 => k_is)
    (case l20 => k_is)
    (case c20 => k_is)
    (case k20 => k_is)
    (case a21 => k_is)
    (case l21 => k_is)
    (case c21 => k_is)
    (case k21 => k_is)
    (case a22 => k_is)
    (case l22 => k_is)
    (case c22 => k_is)
    (case k22 => k_is)
    (case a23 => k_is)
    (case l23 => k_is)
    (case c23 => k_is)
    (case k23 => k_is)
    (case z_len => k_is)
    (case z_list => k_is)
    (case z_sorted => k_is)
    (case z_set => k_is)
    (case z_all => k_is)
    (case z_any => k_is)
    (case z_min => k_is)
    (case z_range => k_is)
    (case z_abs => k_is)
    (case z_int => k_is)
    (case z_dict => k_is)
    (case z_tuple => k_is)
    (case z_repr => k_is)
    (case m_MOST_ROUTERS => k_is)
