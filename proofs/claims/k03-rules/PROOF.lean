import PyProof.Rows.All
import Wide.All
import OpenK.AllK
import Wide.FinOn
import HandS.ForMost
import HandS.ForExc
import KE.DataEq
import KE.SortData
import KE.DataMinMax
import KE.DataAny
import KE.DataCmp
import KE.KDictKeyed
import KE.GoesDict
import HandS.TupAny
import HandS.CallSlots
import HandS.Ends
import PyProof.ReprReads
import HandS.RaiseMore
import HandS.TupSets
import HandS.Style
import HandS.DictTup
import HandS.Exc
import HandS.ExcOwn
import KE.KExcSuper
import HandS.TryMany
import HandS.SetFor
import HandS.Strs
import HandS.Star
import PySem.Challenge.RW_waysflooded_k03_whole_rows_of_rules
set_option Elab.async false
set_option linter.all false
set_option maxRecDepth 100000
/-! DP, part 1: frozen data in an abstract heap, slots, worlds. -/
namespace DP
open PySem PySem.Spec PyProof.Rows L2

abbrev D := PyData

/-! ### keys -/
mutual
def keyD : D → Option NestedKey
  | .none => some .none
  | .bool b => some (.num (if b = true then 1 else 0))
  | .int i => some (.num i)
  | .str x => some (.text x)
  | .tuple ds => (keysD ds).map .tup
  | .list _ => none
  | .dict _ => none
def keysD : List D → Option (List NestedKey)
  | [] => some []
  | d :: ds => (keyD d).bind fun k => (keysD ds).map fun r => k :: r
end

/-- the dict object at a, entry by entry -/
def dicO (a : Addr) (es : Array DictEntry) (ep : Nat) : HO := .ext fun h => (a == sysModules) = false ∧ es.size ≤ sizeLine ∧ h.get? a = some { cls := .type "dict", data := .dict es ep }

section
variable (K : PySem.W.Frag) (w : World) (W : Hp)
mutual
/-- v is the data d, all of it in the frozen world W (or written) -/
def Rep : D → V → Prop
  | .none, v => v = .non
  | .bool b, v => v = .bl b
  | .int i, v => v = .int i
  | .str x, v => v = .str x
  | .tuple ds, v => ∃ a vs, v = .ref a ∧ SqT K W a vs ∧ RepL ds vs
  | .list ds, v => ∃ a vs, v = .ref a ∧ W a = some (.lst vs) ∧ RepL ds vs
  | .dict kvs, v => ∃ a es ep, v = .ref a ∧ W a = some (dicO a es ep) ∧ RepKV kvs es.toList ∧ (kvs.map fun p => keyD p.1).Nodup
def RepL : List D → List V → Prop
  | [], vs => vs = []
  | d :: ds, vs => ∃ v r, vs = v :: r ∧ Rep d v ∧ RepL ds r
def RepKV : List (D × D) → List DictEntry → Prop
  | [], es => es = []
  | (k, d) :: r, es => ∃ e q, es = e :: q ∧ (∃ kk, keyD k = some kk ∧ kk.depth ≤ 8 ∧ e.hash = kk.hash w) ∧ (∃ x, RelV x e.key ∧ Rep k x) ∧ (∃ y, RelV y e.val ∧ Rep d y) ∧ RepKV r q
end
end

section
variable {K : PySem.W.Frag} {w : World} {W W' H H' : Hp}
theorem Same.sqt {a : Addr} {xs : List V} (e : Same W W') (h : SqT K W a xs) : SqT K W' a xs := by
  rcases h with (q | ⟨o, q⟩) | q
  · exact .inl (.inl (e _ _ q))
  · exact .inl (.inr ⟨o, e _ _ q⟩)
  · exact .inr q
theorem Same.sql {a : Addr} {xs : List V} (e : Same W W') (h : SqL K W a xs) : SqL K W' a xs := by
  rcases h with (q | ⟨o, q⟩) | q
  · exact .inl (.inl (e _ _ q))
  · exact .inl (.inr ⟨o, e _ _ q⟩)
  · exact .inr q
theorem Same.rd {a : Addr} {o : HO} (e : Same W W') (h : Rd W a o) : Rd W' a o := by
  rcases h with q | ⟨u, q⟩
  · exact .inl (e _ _ q)
  · exact .inr ⟨u, e _ _ q⟩
mutual
theorem Rep.mono (e : Same W W') : ∀ (d : D) (v : V), Rep K w W d v → Rep K w W' d v
  | .none, _, h => h
  | .bool _, _, h => h
  | .int _, _, h => h
  | .str _, _, h => h
  | .tuple ds, _, h => by
    simp only [Rep] at h ⊢
    obtain ⟨a, vs, e1, e2, e3⟩ := h
    exact ⟨a, vs, e1, Same.sqt e e2, RepL.mono e ds vs e3⟩
  | .list ds, _, h => by
    simp only [Rep] at h ⊢
    obtain ⟨a, vs, e1, e2, e3⟩ := h
    exact ⟨a, vs, e1, e _ _ e2, RepL.mono e ds vs e3⟩
  | .dict kvs, _, h => by
    simp only [Rep] at h ⊢
    obtain ⟨a, es, ep, e1, e2, e3, e4⟩ := h
    exact ⟨a, es, ep, e1, e _ _ e2, RepKV.mono e kvs es.toList e3, e4⟩
theorem RepL.mono (e : Same W W') : ∀ (ds : List D) (vs : List V), RepL K w W ds vs → RepL K w W' ds vs
  | [], _, h => h
  | d :: ds, _, h => by
    simp only [RepL] at h ⊢
    obtain ⟨v, r, e1, e2, e3⟩ := h
    exact ⟨v, r, e1, Rep.mono e d v e2, RepL.mono e ds r e3⟩
theorem RepKV.mono (e : Same W W') : ∀ (kvs : List (D × D)) (es : List DictEntry), RepKV K w W kvs es → RepKV K w W' kvs es
  | [], _, h => h
  | (k, d) :: r, _, h => by
    simp only [RepKV] at h ⊢
    obtain ⟨en, q, e1, e2, ⟨x, x1, x2⟩, ⟨y, y1, y2⟩, e5⟩ := h
    exact ⟨en, q, e1, e2, ⟨x, x1, Rep.mono e k x x2⟩, ⟨y, y1, Rep.mono e d y y2⟩, RepKV.mono e r q e5⟩
end

theorem RepL.len : ∀ {ds : List D} {vs : List V}, RepL K w W ds vs → vs.length = ds.length
  | [], _, h => by simp only [RepL] at h; subst h; rfl
  | d :: ds, _, h => by
    simp only [RepL] at h
    obtain ⟨v, r, rfl, _, h3⟩ := h
    simp [RepL.len h3]
theorem RepL.nil : RepL K w W [] [] := by simp [RepL]
theorem RepL.cons {d : D} {ds : List D} {v : V} {vs : List V} (h : Rep K w W d v) (t : RepL K w W ds vs) : RepL K w W (d :: ds) (v :: vs) := by
  simp only [RepL]; exact ⟨v, vs, rfl, h, t⟩
theorem RepL.append : ∀ {ds es : List D} {vs ws : List V}, RepL K w W ds vs → RepL K w W es ws → RepL K w W (ds ++ es) (vs ++ ws)
  | [], _, _, _, h, t => by simp only [RepL] at h; subst h; exact t
  | d :: ds, _, _, _, h, t => by
    simp only [RepL] at h
    obtain ⟨v, r, rfl, h2, h3⟩ := h
    exact RepL.cons h2 (RepL.append h3 t)
theorem RepL.at : ∀ {ds : List D} {vs : List V} {i : Nat} {d : D}, RepL K w W ds vs → ds[i]? = some d → ∃ v, vs[i]? = some v ∧ Rep K w W d v
  | [], _, _, _, _, e => by simp at e
  | d :: ds, _, 0, _, h, e => by
    simp only [RepL] at h
    obtain ⟨v, r, rfl, h2, h3⟩ := h
    simp only [List.getElem?_cons_zero, Option.some.injEq] at e
    subst e
    exact ⟨v, rfl, h2⟩
  | d :: ds, _, i + 1, d', h, e => by
    simp only [RepL] at h
    obtain ⟨v, r, rfl, h2, h3⟩ := h
    obtain ⟨x, h4, h5⟩ := RepL.at (i := i) h3 (by simpa using e)
    exact ⟨x, by simpa using h4, h5⟩
theorem RepL.at' : ∀ {ds : List D} {vs : List V} {i : Nat} {v : V}, RepL K w W ds vs → vs[i]? = some v → ∃ d, ds[i]? = some d ∧ Rep K w W d v
  | [], _, _, _, h, e => by simp only [RepL] at h; subst h; simp at e
  | d :: ds, _, 0, _, h, e => by
    simp only [RepL] at h
    obtain ⟨v, r, rfl, h2, h3⟩ := h
    simp only [List.getElem?_cons_zero, Option.some.injEq] at e
    subst e
    exact ⟨d, rfl, h2⟩
  | d :: ds, _, i + 1, d', h, e => by
    simp only [RepL] at h
    obtain ⟨v, r, rfl, h2, h3⟩ := h
    obtain ⟨x, h4, h5⟩ := RepL.at' (i := i) h3 (by simpa using e)
    exact ⟨x, by simpa using h4, h5⟩
theorem RepL.take : ∀ {ds : List D} {vs : List V} (n : Nat), RepL K w W ds vs → RepL K w W (ds.take n) (vs.take n)
  | _, _, 0, _ => RepL.nil
  | [], _, n + 1, h => by simp only [RepL] at h; subst h; exact RepL.nil
  | d :: ds, _, n + 1, h => by
    simp only [RepL] at h
    obtain ⟨v, r, rfl, h2, h3⟩ := h
    exact RepL.cons h2 (RepL.take n h3)
theorem RepL.drop : ∀ {ds : List D} {vs : List V} (n : Nat), RepL K w W ds vs → RepL K w W (ds.drop n) (vs.drop n)
  | _, _, 0, h => h
  | [], _, n + 1, h => by simp only [RepL] at h; subst h; exact RepL.nil
  | d :: ds, _, n + 1, h => by
    simp only [RepL] at h
    obtain ⟨v, r, rfl, h2, h3⟩ := h
    exact RepL.drop n h3
theorem RepL.set : ∀ {ds : List D} {vs : List V} (i : Nat) {d : D} {v : V}, RepL K w W ds vs → Rep K w W d v → RepL K w W (ds.set i d) (vs.set i v)
  | [], _, _, _, _, h, _ => by simp only [RepL] at h; subst h; exact RepL.nil
  | _ :: ds, _, 0, _, _, h, q => by
    simp only [RepL] at h
    obtain ⟨v, r, rfl, h2, h3⟩ := h
    exact RepL.cons q h3
  | _ :: ds, _, i + 1, _, _, h, q => by
    simp only [RepL] at h
    obtain ⟨v, r, rfl, h2, h3⟩ := h
    exact RepL.cons h2 (RepL.set i h3 q)
theorem RepL.reverse : ∀ {ds : List D} {vs : List V}, RepL K w W ds vs → RepL K w W ds.reverse vs.reverse
  | [], _, h => by simp only [RepL] at h; subst h; exact RepL.nil
  | d :: ds, _, h => by
    simp only [RepL] at h
    obtain ⟨v, r, rfl, h2, h3⟩ := h
    rw [List.reverse_cons, List.reverse_cons]
    exact RepL.append (RepL.reverse h3) (RepL.cons h2 RepL.nil)

/-! ### what a frozen datum reads as -/
variable {X : Cx} {pins : List (Addr × Obj)} {σ : L2.St} {s : Shared}
mutual
theorem Rep.reads (I : Inv X pins σ H s) (e : Same W H) : ∀ (d : D) (v : V) (u : Value), Rep X.K X.w W d v → RelV v u → ∃ as, Reads s.heap u d as
  | .none, _, _, h, r => by simp only [Rep] at h; subst h; cases r; exact ⟨[], .none⟩
  | .bool b, _, _, h, r => by simp only [Rep] at h; subst h; cases r; exact ⟨[], .bool b⟩
  | .int i, _, _, h, r => by simp only [Rep] at h; subst h; obtain ⟨t, rfl⟩ := r; exact ⟨[], .int i t⟩
  | .str x, _, _, h, r => by simp only [Rep] at h; subst h; obtain ⟨t, rfl⟩ := r; exact ⟨[], .str x t⟩
  | .tuple ds, _, _, h, r => by
    simp only [Rep] at h
    obtain ⟨a, vs, rfl, q, l⟩ := h
    cases r
    obtain ⟨its, rv, ⟨o, e1, e2, n, e3⟩, _⟩ := I.tuple (Same.sqt e q)
    obtain ⟨as, ra⟩ := RepL.reads I e ds vs its l rv
    exact ⟨as, .tuple e1 e2 e3 (by simpa using ra)⟩
  | .list ds, _, _, h, r => by
    simp only [Rep] at h
    obtain ⟨a, vs, rfl, q, l⟩ := h
    cases r
    obtain ⟨its, rv, ⟨o, n, e1, e2, _, e3⟩, _⟩ := I.list (xs := vs) (.of (e _ _ q))
    obtain ⟨as, ra⟩ := RepL.reads I e ds vs its l rv
    exact ⟨_, .list e1 e2 e3 (by simpa using ra)⟩
  | .dict kvs, _, _, h, r => by
    simp only [Rep] at h
    obtain ⟨a, es, ep, rfl, q, l, _⟩ := h
    cases r
    obtain ⟨⟨_, _, e1⟩, _⟩ := I.hok a _ (e _ _ q)
    obtain ⟨as, bs, ra, rb⟩ := RepKV.reads I e kvs es.toList l
    exact ⟨_, .dict e1 rfl rfl ra rb⟩
theorem RepL.reads (I : Inv X pins σ H s) (e : Same W H) : ∀ (ds : List D) (vs : List V) (us : List Value), RepL X.K X.w W ds vs → Vals vs us → ∃ as, ReadsAll s.heap us ds as
  | [], _, _, h, r => by simp only [RepL] at h; subst h; cases r; exact ⟨[], .nil⟩
  | d :: ds, _, _, h, r => by
    simp only [RepL] at h
    obtain ⟨v, q, rfl, h1, h2⟩ := h
    cases r with
    | cons r1 r2 =>
      obtain ⟨as, ra⟩ := Rep.reads I e d v _ h1 r1
      obtain ⟨bs, rb⟩ := RepL.reads I e ds q _ h2 r2
      exact ⟨_, .cons ra rb⟩
theorem RepKV.reads (I : Inv X pins σ H s) (e : Same W H) : ∀ (kvs : List (D × D)) (es : List DictEntry), RepKV X.K X.w W kvs es → ∃ as bs, ReadsAll s.heap (es.map (·.key)) (kvs.map (·.1)) as ∧ ReadsAll s.heap (es.map (·.val)) (kvs.map (·.2)) bs
  | [], _, h => by simp only [RepKV] at h; subst h; exact ⟨[], [], .nil, .nil⟩
  | (k, d) :: r, _, h => by
    simp only [RepKV] at h
    obtain ⟨en, q, rfl, _, ⟨x, x1, x2⟩, ⟨y, y1, y2⟩, h5⟩ := h
    obtain ⟨a1, r1⟩ := Rep.reads I e k x _ x2 x1
    obtain ⟨a2, r2⟩ := Rep.reads I e d y _ y2 y1
    obtain ⟨as, bs, ra, rb⟩ := RepKV.reads I e r q h5
    exact ⟨_, _, .cons r1 ra, .cons r2 rb⟩
end
end
end DP
set_option Elab.async false
set_option linter.all false
set_option maxRecDepth 100000
/-! DP, part 2: slots, worlds and what changes them; outcomes; the readings tX, tT, tA, tS. -/
namespace DP
open PySem PySem.Spec PyProof.Rows L2

/-- a slot: nothing, frozen data, or a container of one's own (t: which in-out parameter it is) -/
inductive Sl where
  | no
  | fz (d : D)
  | ow (t : Option Nat) (c : D)
  /-- the law's script -/
  | sc (ns : List Int)

abbrev Ev := List Sl

/-- an outcome: a value; an exception of the class named c with d as its at, and the slots then; nothing is known -/
inductive Out (α : Type) where
  | ok (a : α)
  | exc (c : Str) (d : D) (e : Ev)
  | bad
def Out.bind {α β : Type} : Out α → (α → Out β) → Out β
  | .ok a, f => f a
  | .exc c d e, _ => .exc c d e
  | .bad, _ => .bad
@[simp] theorem Out.bind_ok {α β : Type} (a : α) (f : α → Out β) : Out.bind (.ok a) f = f a := rfl
@[simp] theorem Out.bind_exc {α β : Type} (c : Str) (d : D) (e : Ev) (f : α → Out β) : Out.bind (.exc c d e) f = .exc c d e := rfl
@[simp] theorem Out.bind_bad {α β : Type} (f : α → Out β) : Out.bind .bad f = .bad := rfl

section
variable (K : PySem.W.Frag) (w : World)
/-- a container of one's own at p -/
def Own (W H : Hp) : D → Addr → Prop
  | .list ds, p => ∃ vs, H p = some (.lst vs) ∧ RepL K w W ds vs
  | .dict kvs, p => ∃ es ep, H p = some (dicO p es ep) ∧ RepKV K w W kvs es.toList ∧ (kvs.map fun q => keyD q.1).Nodup
  | _, _ => False
/-- a slot s with the value v; l: the addresses that are its own -/
def SlR (ρ : Nat → Addr) (W H : Hp) : Sl → Option V → List Addr → Prop
  | .no, _, l => l = []
  | .fz d, v, l => l = [] ∧ ∃ x, v = some x ∧ Rep K w W d x
  | .sc ns, v, l => l = [] ∧ ∃ a, v = some (.ref a) ∧ SqL K W a (ns.map V.int)
  | .ow t c, v, l => ∃ p, l = [p] ∧ v = some (.ref p) ∧ W p = none ∧ Own K w W H c p ∧ ∀ j, t = some j → ρ j = p
/-- the state's picture: the frozen world W within H, the slots, the addresses that are one's own -/
structure SR (ρ : Nat → Addr) (W H : Hp) (env : Ev) (σ : L2.St) (A : List (List Addr)) : Prop where
  sub : Same W H
  le : env.length = σ.length
  la : A.length = σ.length
  slot : ∀ (i : Nat) s v l, env[i]? = some s → σ[i]? = some v → A[i]? = some l → SlR K w ρ W H s v l
  inj : ∀ (i j : Nat) l m p, A[i]? = some l → A[j]? = some m → p ∈ l → p ∈ m → i = j
end
def ownd (A : List (List Addr)) (p : Addr) : Prop := ∃ (i : Nat) (l : List Addr), A[i]? = some l ∧ p ∈ l
/-- what may have changed: new things, and one's own -/
structure Fr (W H : Hp) (P : Addr → Prop) (W' H' : Hp) (P' : Addr → Prop) : Prop where
  ext : Same W W'
  keep : ∀ p o, H p = some o → ¬ P p → H' p = some o
  new : ∀ p, W' p ≠ none → W p = none → P p ∨ H p = none
  own : ∀ p, P' p → P p ∨ H p = none
theorem Fr.refl (W H : Hp) (P : Addr → Prop) : Fr W H P W H P := ⟨Same.refl _, fun _ _ h _ => h, fun _ h1 h2 => absurd h2 h1, fun _ h => .inl h⟩
theorem Fr.trans {W H W1 H1 W2 H2 : Hp} {P P1 P2 : Addr → Prop} (a : Fr W H P W1 H1 P1) (b : Fr W1 H1 P1 W2 H2 P2) : Fr W H P W2 H2 P2 := by
  have back : ∀ p, H1 p = none → P p ∨ H p = none := fun p h => by
    cases q : H p with
    | none => exact .inr rfl
    | some o =>
      by_cases hp : P p
      · exact .inl hp
      · have := a.keep p o q hp
        rw [h] at this; cases this
  refine ⟨a.ext.trans b.ext, fun p o h hp => ?_, fun p h2 h0 => ?_, fun p h => ?_⟩
  · refine b.keep p o (a.keep p o h hp) fun h1 => ?_
    rcases a.own p h1 with z | z
    · exact hp z
    · rw [h] at z; cases z
  · cases q : W1 p with
    | some o => exact a.new p (by rw [q]; exact fun z => nomatch z) h0
    | none =>
      rcases b.new p h2 q with z | z
      · exact a.own p z
      · exact back p z
  · rcases b.own p h with z | z
    · exact a.own p z
    · exact back p z
/-- only new things, frozen or thrown away -/
structure Ex (W H W' H' : Hp) : Prop where
  ext : Same W W'
  keep : Same H H'
  sub : Same W' H'
  new : ∀ p, W' p ≠ none → W p = none → H p = none
theorem Ex.refl {W H : Hp} (e : Same W H) : Ex W H W H := ⟨Same.refl _, Same.refl _, e, fun _ h1 h2 => absurd h2 h1⟩
theorem Ex.trans {W H W1 H1 W2 H2 : Hp} (a : Ex W H W1 H1) (b : Ex W1 H1 W2 H2) : Ex W H W2 H2 := by
  refine ⟨a.ext.trans b.ext, a.keep.trans b.keep, b.sub, fun p h2 h0 => ?_⟩
  cases q : W1 p with
  | some o => exact a.new p (by rw [q]; exact fun z => nomatch z) h0
  | none =>
    have z := b.new p h2 q
    cases q' : H p with
    | none => rfl
    | some o => rw [a.keep p o q'] at z; cases z
theorem Ex.fr {W H W' H' : Hp} (e : Ex W H W' H') (P : Addr → Prop) : Fr W H P W' H' P := ⟨e.ext, fun p o h _ => e.keep p o h, fun p h1 h2 => .inr (e.new p h1 h2), fun _ h => .inl h⟩
/-- one new frozen object -/
theorem Ex.one {W H : Hp} (e : Same W H) {p : Addr} {o : HO} (h : H p = none) : Ex W H (upd W p o) (upd H p o) := by
  have hW : W p = none := e.free h
  refine ⟨fun b u q => ?_, fun b u q => ?_, fun b u q => ?_, fun b h1 h2 => ?_⟩
  · rw [upd_ne (ne_of_none q hW)]; exact q
  · rw [upd_ne (ne_of_none q h)]; exact q
  · by_cases hb : b = p
    · subst hb; rw [upd_same] at q ⊢; exact q
    · rw [upd_ne hb] at q ⊢; exact e _ _ q
  · by_cases hb : b = p
    · subst hb; exact h
    · rw [upd_ne hb] at h1; exact absurd h2 h1
/-- one new object that is not frozen -/
theorem Ex.junk {W H : Hp} (e : Same W H) {p : Addr} {o : HO} (h : H p = none) : Ex W H W (upd H p o) := by
  refine ⟨Same.refl _, fun b u q => ?_, fun b u q => ?_, fun b h1 h2 => absurd h2 h1⟩
  · rw [upd_ne (ne_of_none q h)]; exact q
  · rw [upd_ne (ne_of_none (e _ _ q) h)]; exact e _ _ q
section
variable {K : PySem.W.Frag} {w : World} {ρ : Nat → Addr} {W W' H H' : Hp} {env env' : Ev} {σ : L2.St} {A A' : List (List Addr)}
theorem Own.mono {c : D} {p : Addr} (h : Own K w W H c p) (e : Same W W') (q : H' p = H p) : Own K w W' H' c p := by
  cases c with
  | list ds => obtain ⟨vs, h1, h2⟩ := h; exact ⟨vs, q.trans h1, RepL.mono e ds vs h2⟩
  | dict kvs => obtain ⟨es, ep, h1, h2, h3⟩ := h; exact ⟨es, ep, q.trans h1, RepKV.mono e kvs _ h2, h3⟩
  | _ => exact h.elim
theorem Own.there {c : D} {p : Addr} (h : Own K w W H c p) : ∃ o, H p = some o := by
  cases c with
  | list ds => obtain ⟨vs, h1, h2⟩ := h; exact ⟨_, h1⟩
  | dict kvs => obtain ⟨es, ep, h1, h2⟩ := h; exact ⟨_, h1⟩
  | _ => exact h.elim
/-- a slot's own addresses: not frozen, and there -/
theorem SlR.own {s : Sl} {v : Option V} {l : List Addr} (h : SlR K w ρ W H s v l) {p : Addr} (hp : p ∈ l) : W p = none ∧ ∃ o, H p = some o := by
  cases s with
  | no => have h : l = [] := h; subst h; cases hp
  | fz d => obtain ⟨h, _⟩ := h; subst h; cases hp
  | sc ns => obtain ⟨h, _⟩ := h; subst h; cases hp
  | ow t c =>
    obtain ⟨p', h, _, h4, h5, _⟩ := h
    subst h
    have e : p = p' := by simpa using hp
    subst e
    exact ⟨h4, h5.there⟩
/-- a slot's picture where its own addresses are as they were -/
theorem SlR.keep {s : Sl} {v : Option V} {l : List Addr} (h : SlR K w ρ W H s v l) (e : Same W W') (k : ∀ p ∈ l, H' p = H p ∧ W' p = none) : SlR K w ρ W' H' s v l := by
  cases s with
  | no => exact h
  | fz d => obtain ⟨q1, x, q2, q3⟩ := h; exact ⟨q1, x, q2, Rep.mono e d x q3⟩
  | sc ns => obtain ⟨q1, x, q2, q3⟩ := h; exact ⟨q1, x, q2, Same.sql e q3⟩
  | ow t c =>
    obtain ⟨p, q1, q2, q3, q4, q5⟩ := h
    subst q1
    obtain ⟨k1, k2⟩ := k p (by simp)
    exact ⟨p, rfl, q2, k2, q4.mono e k1, q5⟩
theorem SR.at (S : SR K w ρ W H env σ A) {i : Nat} {s : Sl} (h : env[i]? = some s) : ∃ v l, σ[i]? = some v ∧ A[i]? = some l ∧ SlR K w ρ W H s v l := by
  have h0 : i < env.length := (List.getElem?_eq_some_iff.mp h).1
  have h1 : i < σ.length := by rw [← S.le]; exact h0
  have h2 : i < A.length := by rw [S.la]; exact h1
  exact ⟨_, _, List.getElem?_eq_getElem h1, List.getElem?_eq_getElem h2, S.slot i s _ _ h (List.getElem?_eq_getElem h1) (List.getElem?_eq_getElem h2)⟩
theorem SR.own (S : SR K w ρ W H env σ A) {p : Addr} (h : ownd A p) : W p = none ∧ ∃ o, H p = some o := by
  obtain ⟨i, l, hi, hp⟩ := h
  have hl : i < A.length := (List.getElem?_eq_some_iff.mp hi).1
  have h1 : i < σ.length := by rw [← S.la]; exact hl
  have h2 : i < env.length := by rw [S.le]; exact h1
  exact (S.slot i _ _ _ (List.getElem?_eq_getElem h2) (List.getElem?_eq_getElem h1) hi).own hp
/-- the slots where what is their own is as it was -/
theorem SR.keep (S : SR K w ρ W H env σ A) (e : Same W W') (sub : Same W' H') (k : ∀ p, ownd A p → H' p = H p ∧ W' p = none) : SR K w ρ W' H' env σ A :=
  ⟨sub, S.le, S.la, fun i s v l h1 h2 h3 => (S.slot i s v l h1 h2 h3).keep e fun p hp => k p ⟨i, l, h3, hp⟩, S.inj⟩
/-- the same slots in a bigger world -/
theorem SR.ex (S : SR K w ρ W H env σ A) (e : Ex W H W' H') : SR K w ρ W' H' env σ A := by
  refine S.keep e.ext e.sub fun p hp => ?_
  obtain ⟨h1, o, h2⟩ := S.own hp
  refine ⟨by rw [h2]; exact e.keep _ _ h2, ?_⟩
  cases z : W' p with
  | none => rfl
  | some u =>
    have q := e.new p (by rw [z]; exact fun z => nomatch z) h1
    rw [h2] at q; cases q
/-- what of a caller's picture is left when others have changed things that are not its own -/
theorem SR.fr {P P' : Addr → Prop} (S : SR K w ρ W H env σ A) (e : Fr W H P W' H' P') (sub : Same W' H') (hP : ∀ p, P p → ¬ ownd A p) : SR K w ρ W' H' env σ A := by
  refine S.keep e.ext sub fun p hp => ?_
  obtain ⟨h1, o, h2⟩ := S.own hp
  have np : ¬ P p := fun z => hP p z hp
  refine ⟨by rw [h2]; exact e.keep _ _ h2 np, ?_⟩
  cases z : W' p with
  | none => rfl
  | some u =>
    rcases e.new p (by rw [z]; exact fun z => nomatch z) h1 with y | y
    · exact absurd y np
    · rw [h2] at y; cases y
theorem at_set {α : Type} {l : List α} {i j : Nat} {x y : α} (h : (l.set i x)[j]? = some y) : (j = i ∧ y = x) ∨ (j ≠ i ∧ l[j]? = some y) := by
  by_cases hj : j = i
  · subst hj
    have hl : j < l.length := by
      have := (List.getElem?_eq_some_iff.mp h).1
      simpa using this
    rw [List.getElem?_set_self hl] at h
    cases h
    exact .inl ⟨rfl, rfl⟩
  · rw [List.getElem?_set_ne (Ne.symm hj)] at h
    exact .inr ⟨hj, h⟩
/-- ONE SLOT STORED, the others as they are: m are its own addresses now, none of them another slot's -/
theorem SR.put (S : SR K w ρ W H env σ A) (i : Nat) {s : Sl} {v : Option V} {m : List Addr} (h : SlR K w ρ W H s v m) (hm : ∀ (j : Nat) l p, j ≠ i → A[j]? = some l → p ∈ l → p ∉ m) :
    SR K w ρ W H (env.set i s) (σ.set i v) (A.set i m) := by
  refine ⟨S.sub, by simp [S.le], by simp [S.la], fun j s' v' l h1 h2 h3 => ?_, fun j k l l' p h1 h2 p1 p2 => ?_⟩
  · rcases at_set h1 with ⟨e1, e2⟩ | ⟨e1, e2⟩ <;> rcases at_set h2 with ⟨f1, f2⟩ | ⟨f1, f2⟩ <;> rcases at_set h3 with ⟨g1, g2⟩ | ⟨g1, g2⟩ <;> first | exact absurd e1 f1 | exact absurd f1 e1 | exact absurd e1 g1 | exact absurd g1 e1 | skip
    · subst e2 f2 g2; exact h
    · exact S.slot j _ _ _ e2 f2 g2
  · rcases at_set h1 with ⟨e1, e2⟩ | ⟨e1, e2⟩ <;> rcases at_set h2 with ⟨f1, f2⟩ | ⟨f1, f2⟩
    · rw [e1, f1]
    · subst e2; exact absurd p1 (hm k l' p f1 f2 p2)
    · subst f2; exact absurd p2 (hm j l p e1 e2 p1)
    · exact S.inj j k l l' p e2 f2 p1 p2
theorem ownd_put {i : Nat} {m : List Addr} {p : Addr} (h : ownd (A.set i m) p) : p ∈ m ∨ ownd A p := by
  obtain ⟨j, l, h, hp⟩ := h
  rcases at_set h with ⟨_, e⟩ | ⟨_, e⟩
  · subst e; exact .inl hp
  · exact .inr ⟨j, l, e, hp⟩
/-- .. frozen data -/
theorem SR.setFz (S : SR K w ρ W H env σ A) (i : Nat) {d : D} {x : V} (r : Rep K w W d x) : SR K w ρ W H (env.set i (.fz d)) (σ.set i (some x)) (A.set i []) :=
  S.put i ⟨rfl, x, rfl, r⟩ fun _ _ _ _ _ _ h => nomatch h
theorem SR.setNo (S : SR K w ρ W H env σ A) (i : Nat) (v : Option V) : SR K w ρ W H (env.set i .no) (σ.set i v) (A.set i []) := S.put i rfl fun _ _ _ _ _ _ h => nomatch h
theorem ownd_nil {i : Nat} {p : Addr} (h : ownd (A.set i []) p) : ownd A p := (ownd_put h).resolve_left fun h => nomatch h
end
end DP
set_option Elab.async false
set_option linter.all false
set_option maxRecDepth 100000
/-! DP, part 3: the readings of expressions, tests, argument lists. -/
namespace DP
open PySem PySem.Spec PyProof.Rows L2

abbrev XF := Ev → Out (D × Ev)
abbrev TF := Ev → Out (Bool × Ev)
abbrev AF := Ev → Out (List D × Ev)

section
variable {α β : Type}
/-- what is wanted of an outcome -/
def onG (K : PySem.W.Frag) (w : World) (mg : Str → Option Value) (Wx : WX) (R : Hp → α → β → Prop) (ρ : Nat → Addr) (σ : L2.St) (W H : Hp) (A : List (List Addr)) (o : Out (α × Ev)) (Q : β → Hp → Prop) : Prop :=
  match o with
  | .ok (d, env') => ∀ W' H' A' v, SR K w ρ W' H' env' σ A' → Fr W H (ownd A) W' H' (ownd A') → R W' d v → Q v H'
  | .exc c d env' => ∀ C W' H' A' dx v, mg c = some (.ref C) → SR K w ρ W' H' env' σ A' → Fr W H (ownd A) W' H' (ownd A') → H' dx = some (.xd [("at", v)]) → Rep K w W' d v → Wx (.ref C) (some dx) σ H'
  | .bad => False
/-- the reading of what f reckons -/
def tG (K : PySem.W.Frag) (w : World) (mg : Str → Option Value) (Wx : WX) (R : Hp → α → β → Prop) (f : Ev → Out (α × Ev)) : L2.St → Hp → (β → Hp → Prop) → Prop := fun σ H Q =>
  ∃ ρ W env A, SR K w ρ W H env σ A ∧ onG K w mg Wx R ρ σ W H A (f env) Q
variable {K : PySem.W.Frag} {w : World} {mg : Str → Option Value} {Wx : WX} {R : Hp → α → β → Prop} {ρ : Nat → Addr} {σ : L2.St} {W H W1 H1 : Hp} {A A1 : List (List Addr)} {o : Out (α × Ev)} {Q Q' : β → Hp → Prop}
theorem onG_fr (h : onG K w mg Wx R ρ σ W H A o Q) (F : Fr W H (ownd A) W1 H1 (ownd A1)) : onG K w mg Wx R ρ σ W1 H1 A1 o Q := by
  cases o with
  | ok r => exact fun W' H' A' v S' F' r' => h W' H' A' v S' (F.trans F') r'
  | exc c d e => exact fun C W' H' A' dx v g S' F' x r' => h C W' H' A' dx v g S' (F.trans F') x r'
  | bad => exact h
theorem onG_mono (h : onG K w mg Wx R ρ σ W H A o Q) (k : ∀ v H', Q v H' → Q' v H') : onG K w mg Wx R ρ σ W H A o Q' := by
  cases o with
  | ok r => exact fun W' H' A' v S' F' r' => k _ _ (h W' H' A' v S' F' r')
  | exc c d e => exact h
  | bad => exact h
theorem tG_mono {f : Ev → Out (α × Ev)} (k : ∀ v H', Q v H' → Q' v H') (h : tG K w mg Wx R f σ H Q) : tG K w mg Wx R f σ H Q' := by
  obtain ⟨ρ, W, env, A, S, h⟩ := h
  exact ⟨ρ, W, env, A, S, onG_mono h k⟩
end
/-- THE STEP: what f reckons, then the rest -/
theorem tG_seq {α β γ δ : Type} {K : PySem.W.Frag} {w : World} {mg : Str → Option Value} {Wx : WX} {R : Hp → α → β → Prop} {R' : Hp → γ → δ → Prop} {ρ : Nat → Addr} {σ : L2.St} {W H : Hp} {A : List (List Addr)} {env : Ev} {f : Ev → Out (α × Ev)} {k : α × Ev → Out (γ × Ev)} {Q : δ → Hp → Prop}
    (S : SR K w ρ W H env σ A) (h : onG K w mg Wx R' ρ σ W H A ((f env).bind k) Q) :
    tG K w mg Wx R f σ H fun v H1 => ∃ d W1 env1 A1, SR K w ρ W1 H1 env1 σ A1 ∧ Fr W H (ownd A) W1 H1 (ownd A1) ∧ R W1 d v ∧ onG K w mg Wx R' ρ σ W1 H1 A1 (k (d, env1)) Q := by
  refine ⟨ρ, W, env, A, S, ?_⟩
  cases e : f env with
  | ok r =>
    rw [e, Out.bind_ok] at h
    obtain ⟨d, env1⟩ := r
    exact fun W1 H1 A1 v S1 F1 r1 => ⟨d, W1, env1, A1, S1, F1, r1, onG_fr h F1⟩
  | exc c d e' => rw [e, Out.bind_exc] at h; exact h
  | bad => rw [e, Out.bind_bad] at h; exact h.elim
/-- the step, with what follows -/
theorem tG_then {α β γ δ : Type} {K : PySem.W.Frag} {w : World} {mg : Str → Option Value} {Wx : WX} {R : Hp → α → β → Prop} {R' : Hp → γ → δ → Prop} {ρ : Nat → Addr} {σ : L2.St} {W H : Hp} {A : List (List Addr)} {env : Ev} {f : Ev → Out (α × Ev)} {k : α × Ev → Out (γ × Ev)} {Q : δ → Hp → Prop} {Q' : β → Hp → Prop}
    (S : SR K w ρ W H env σ A) (h : onG K w mg Wx R' ρ σ W H A ((f env).bind k) Q)
    (n : ∀ d W1 H1 env1 A1 v, SR K w ρ W1 H1 env1 σ A1 → Fr W H (ownd A) W1 H1 (ownd A1) → R W1 d v → onG K w mg Wx R' ρ σ W1 H1 A1 (k (d, env1)) Q → Q' v H1) : tG K w mg Wx R f σ H Q' :=
  tG_mono (fun v H1 ⟨d, W1, env1, A1, S1, F1, r1, h1⟩ => n d W1 H1 env1 A1 v S1 F1 r1 h1) (tG_seq S h)

abbrev tX (X : Cx) (Wx : WX) (f : XF) : TE := tG X.K X.w X.mg Wx (Rep X.K X.w) f
abbrev tT (X : Cx) (Wx : WX) (f : TF) : TT := tG X.K X.w X.mg Wx (fun _ a b => b = a) f
abbrev tL (X : Cx) (Wx : WX) (f : AF) : TA := tG X.K X.w X.mg Wx (RepL X.K X.w) f
abbrev onX (X : Cx) (Wx : WX) := onG X.K X.w X.mg Wx (Rep X.K X.w)

/-- e reckons as f says -/
abbrev EX (X : Cx) (Wx : WX) (e : Expr) (f : XF) : Prop := PE X e (tX X Wx f)
abbrev ET (X : Cx) (Wx : WX) (e : Expr) (f : TF) : Prop := PT X e (tT X Wx f)
abbrev EA (X : Cx) (Wx : WX) (es : List Expr) (f : AF) : Prop := PA X es (tL X Wx f)

theorem PE.wk {X : Cx} {e : Expr} {t t' : TE} (h : PE X e t) (k : ∀ σ H Q, t' σ H Q → t σ H Q) : PE X e t' := ⟨fun pins s σ H Q I q => h.run pins s σ H Q I (k σ H Q q)⟩
theorem PT.wk {X : Cx} {e : Expr} {t t' : TT} (h : PT X e t) (k : ∀ σ H Q, t' σ H Q → t σ H Q) : PT X e t' := ⟨fun pins s σ H Q I q => h.run pins s σ H Q I (k σ H Q q)⟩
theorem PW.wk {X : Cx} {e : Expr} {t t' : TT} (h : PW X e t) (k : ∀ σ H Q, t' σ H Q → t σ H Q) : PW X e t' := ⟨fun wh pins s σ H Q I q => h.run wh pins s σ H Q I (k σ H Q q)⟩
theorem PA.wk {X : Cx} {es : List Expr} {t t' : TA} (h : PA X es t) (k : ∀ σ H Q, t' σ H Q → t σ H Q) : PA X es t' := ⟨fun pos pins s σ H Q I q => h.run pos pins s σ H Q I (k σ H Q q)⟩
theorem PS.wk {X : Cx} {st : Stmt} {t t' : TS} (h : PS X st t) (k : ∀ D σ H, t' D σ H → t D σ H) : PS X st t' := ⟨fun pins s σ H D I q => h.run pins s σ H D I (k D σ H q)⟩
theorem PSs.wk {X : Cx} {st : List Stmt} {t t' : TS} (h : PSs X st t) (k : ∀ D σ H, t' D σ H → t D σ H) : PSs X st t' := ⟨fun pins s σ H D I q => h.run pins s σ H D I (k D σ H q)⟩
theorem PI.wk {X : Cx} {tg iter : Expr} {t t' : TI} (h : PI X tg iter t) (k : ∀ σ H R, t' σ H R → t σ H R) : PI X tg iter t' := ⟨fun pins s σ H R I q => h.run pins s σ H R I (k σ H R q)⟩

/-! ### operations on values -/
section
variable (K : PySem.W.Frag) (w : World)
/-- what is wanted of an operation's result -/
def onV (W H : Hp) (o : Option D) (Q : VK) : Prop := match o with
  | some z => ∀ W' H' v, Ex W H W' H' → Rep K w W' z v → Q v H'
  | none => False
def tV1 (op : D → Option D) : V → Hp → VK → Prop := fun v H Q => ∃ W x, Same W H ∧ Rep K w W x v ∧ onV K w W H (op x) Q
def tV2 (op : D → D → Option D) : V → V → Hp → VK → Prop := fun v u H Q => ∃ W x y, Same W H ∧ Rep K w W x v ∧ Rep K w W y u ∧ onV K w W H (op x y) Q
def tVn (op : List D → Option D) : List V → Hp → VK → Prop := fun vs H Q => ∃ W xs, Same W H ∧ RepL K w W xs vs ∧ onV K w W H (op xs) Q
end
def liftO {α : Type} (o : Option α) (env : Ev) : Out (α × Ev) := match o with
  | some d => .ok (d, env)
  | none => .bad
@[simp] theorem liftO_some {α : Type} (d : α) (env : Ev) : liftO (some d) env = .ok (d, env) := rfl
@[simp] theorem liftO_none {α : Type} (env : Ev) : liftO (none : Option α) env = .bad := rfl
section
variable {X : Cx} {Wx : WX} {ρ : Nat → Addr} {σ : L2.St} {W H : Hp} {A : List (List Addr)} {env : Ev} {Q : VK}
/-- .. in the slots' picture -/
theorem onV_of {o : Option D} (S : SR X.K X.w ρ W H env σ A) (h : onX X Wx ρ σ W H A (liftO o env) Q) : onV X.K X.w W H o Q := by
  cases o with
  | none => exact h
  | some z => exact fun W' H' v e r => h W' H' A v (S.ex e) (e.fr _) r
end

def xConst (d : D) : XF := fun env => .ok (d, env)
def x1 (op : D → Option D) (f : XF) : XF := fun env => (f env).bind fun r => liftO (op r.1) r.2
def x2 (op : D → D → Option D) (f g : XF) : XF := fun env => (f env).bind fun r => (g r.2).bind fun q => liftO (op r.1 q.1) q.2
def aNil : AF := fun env => .ok ([], env)
def aCons (f : XF) (g : AF) : AF := fun env => (f env).bind fun r => (g r.2).bind fun q => .ok (r.1 :: q.1, q.2)
def xn (op : List D → Option D) (f : AF) : XF := fun env => (f env).bind fun r => liftO (op r.1) r.2

section
variable {X : Cx} {Wx : WX} {a b : Expr} {f g : XF} {pos : Pos}
theorem ex_un {op : UnaryOp} {o : D → Option D} (ho : UnR X (unaryOp op) (tV1 X.K X.w o)) (ha : EX X Wx a f) : EX X Wx (.UnaryOp op a pos) (x1 o f) := by
  refine PE.wk (pe_un ho ha) ?_
  rintro σ H Q ⟨ρ, W, env, A, S, h⟩
  exact tG_then S h fun d W1 H1 env1 A1 v S1 F1 r1 h1 => ⟨W1, d, S1.sub, r1, onV_of S1 h1⟩
theorem x2_read {r : V → V → Hp → VK → Prop} {o : D → D → Option D} {σ : L2.St} {H : Hp} {Q : VK} (k : ∀ v u H Q, tV2 X.K X.w o v u H Q → r v u H Q) (h : tX X Wx (x2 o f g) σ H Q) : tOp r (tX X Wx f) (tX X Wx g) σ H Q := by
  obtain ⟨ρ, W, env, A, S, h⟩ := h
  refine tG_then S h fun d W1 H1 env1 A1 v S1 F1 r1 h1 => ?_
  refine tG_then S1 h1 fun d2 W2 H2 env2 A2 u S2 F2 r2 h2 => ?_
  exact k _ _ _ _ ⟨W2, d, d2, S2.sub, Rep.mono F2.ext d v r1, r2, onV_of S2 h2⟩
theorem ex_bin {op : Operator} {o : D → D → Option D} (ho : OpR X (binaryOp op) (tV2 X.K X.w o)) (ha : EX X Wx a f) (hb : EX X Wx b g) : EX X Wx (.BinOp a op b pos) (x2 o f g) :=
  PE.wk (pe_op ho ha hb) fun σ H Q h => x2_read (fun _ _ _ _ q => q) h
theorem ex_cmp {op : CmpOp} {o : D → D → Option D} (ho : OpR X (compareOp op) (tV2 X.K X.w o)) (ha : EX X Wx a f) (hb : EX X Wx b g) (hm : behindInMarks op b = false := by first | exact nomark _ | rfl) : EX X Wx (.Compare a [op] [b] pos) (x2 o f g) :=
  PE.wk (pe_cmpR ho ha hb hm) fun σ H Q h => x2_read (fun _ _ _ _ q => q) h
theorem ea_nil : EA X Wx [] aNil := by
  refine PA.wk pa_nil ?_
  rintro σ H Q ⟨ρ, W, env, A, S, h⟩
  exact h W H A [] S (Fr.refl _ _ _) RepL.nil
theorem ea_cons {es : List Expr} {g : AF} (ha : EX X Wx a f) (hr : EA X Wx es g) (hs : starEach (a :: es) X.env = (false, eval a X.env) :: starEach es X.env := by rfl) : EA X Wx (a :: es) (aCons f g) := by
  refine PA.wk (pa_cons ha hr hs) ?_
  rintro σ H Q ⟨ρ, W, env, A, S, h⟩
  refine tG_then S h fun d W1 H1 env1 A1 v S1 F1 r1 h1 => ?_
  refine tG_then S1 h1 fun ds W2 H2 env2 A2 vs S2 F2 r2 h2 => ?_
  exact h2 W2 H2 A2 _ S2 (Fr.refl _ _ _) (RepL.cons (Rep.mono F2.ext d v r1) r2)
/-- a frozen slot -/
def xVar (i : Nat) : XF := fun env => match env[i]? with
  | some (.fz d) => .ok (d, env)
  | some (.ow _ c) => .ok (c, env.set i (.fz c))
  | _ => .bad
theorem Own.lay {K : PySem.W.Frag} {w : World} {W H : Hp} {c : D} {p : Addr} (h : Own K w W H c p) (e : Same W H) (n : W p = none) : ∃ o, H p = some o ∧ Rep K w (upd W p o) c (.ref p) ∧ Same (L2.upd W p o) H := by
  have sm : ∀ o, Same W (L2.upd W p o) := fun o b u q => by rw [upd_ne (ne_of_none q n)]; exact q
  have sH : ∀ o, H p = some o → Same (L2.upd W p o) H := fun o ho b u q => by
    by_cases hb : b = p
    · subst hb; rw [upd_same] at q; rw [ho]; exact q
    · rw [upd_ne hb] at q; exact e _ _ q
  cases c with
  | list ds =>
    obtain ⟨vs, h1, h2⟩ := h
    refine ⟨_, h1, ?_, sH _ h1⟩
    simp only [Rep]
    exact ⟨p, vs, rfl, upd_same, RepL.mono (sm _) ds vs h2⟩
  | dict kvs =>
    obtain ⟨es, ep, h1, h2, h3⟩ := h
    refine ⟨_, h1, ?_, sH _ h1⟩
    simp only [Rep]
    exact ⟨p, es, ep, rfl, upd_same, RepKV.mono (sm _) kvs _ h2, h3⟩
  | _ => exact h.elim
theorem ex_var {i : Nat} {x : Str} (h : PE X (.Name x pos) (tVar i)) : EX X Wx (.Name x pos) (xVar i) := by
  refine PE.wk h ?_
  rintro σ H Q ⟨ρ, W, env, A, S, h⟩
  unfold xVar at h
  cases e : env[i]? with
  | none => rw [e] at h; exact h.elim
  | some sl =>
    rw [e] at h
    obtain ⟨v, l, h1, h2, h3⟩ := S.at e
    cases sl with
    | no => exact h.elim
    | sc ns => exact h.elim
    | fz d =>
      obtain ⟨_, x, rfl, r⟩ := h3
      exact ⟨x, h1, h W H A x S (Fr.refl _ _ _) r⟩
    | ow t c =>
      obtain ⟨p, rfl, rfl, q3, q4, _⟩ := h3
      obtain ⟨o, ho, r, sb⟩ := q4.lay S.sub q3
      refine ⟨.ref p, h1, ?_⟩
      have hl : i < σ.length := (List.getElem?_eq_some_iff.mp h1).1
      have sm : Same W (upd W p o) := fun b u q => by rw [upd_ne (ne_of_none q q3)]; exact q
      have S1 : SR X.K X.w ρ (upd W p o) H (env.set i (.fz c)) σ (A.set i []) := by
        have S2 : SR X.K X.w ρ W H (env.set i .no) (σ.set i (some (.ref p))) (A.set i []) := S.setNo i _
        have es : σ.set i (some (V.ref p)) = σ := by
          refine List.ext_getElem? fun j => ?_
          by_cases hj : j = i
          · subst hj; rw [List.getElem?_set_self hl, h1]
          · rw [List.getElem?_set_ne (Ne.symm hj)]
        rw [es] at S2
        have S3 : SR X.K X.w ρ (upd W p o) H (env.set i .no) σ (A.set i []) := by
          refine S2.keep sm sb fun b hb => ⟨rfl, ?_⟩
          have hbp : b ≠ p := by
            rintro rfl
            obtain ⟨j, m, hj, hm⟩ := hb
            rcases at_set hj with ⟨_, e⟩ | ⟨e1, e2⟩
            · subst e; cases hm
            · exact e1 (S.inj j i m [b] b e2 h2 hm (by simp))
          rw [upd_ne hbp]
          exact (S.own (ownd_nil hb)).1
        have S4 := S3.setFz i r
        rw [es] at S4
        simpa using S4
      refine h _ H _ _ S1 ⟨sm, fun _ _ q _ => q, fun b h5 h6 => ?_, fun b hb => .inl (ownd_nil hb)⟩ r
      by_cases hb : b = p
      · subst hb; exact .inl ⟨i, _, h2, by simp⟩
      · rw [upd_ne hb] at h5; exact absurd h6 h5
theorem ex_const {e : Expr} {d : D} {v : V} (h : PE X e (tC v)) (r : ∀ W, Rep X.K X.w W d v) : EX X Wx e (xConst d) := by
  refine PE.wk h ?_
  rintro σ H Q ⟨ρ, W, env, A, S, h⟩
  exact h W H A v S (Fr.refl _ _ _) (r W)
end
end DP
set_option Elab.async false
set_option linter.all false
set_option maxRecDepth 100000
/-! DP, part 4: operators by values. -/
namespace DP
open PySem PySem.Spec PyProof.Rows L2

/-! ### arithmetic -/
def addD : D → D → Option D
  | .int i, .int j => some (.int (i + j))
  | .str x, .str y => if x.length + y.length ≤ sizeLine then some (.str (x ++ y)) else none
  | .list xs, .list ys => if xs.length + ys.length ≤ sizeLine then some (.list (xs ++ ys)) else none
  | .tuple xs, .tuple ys => if xs.length + ys.length ≤ sizeLine then some (.tuple (xs ++ ys)) else none
  | _, _ => none
def subD : D → D → Option D
  | .int i, .int j => some (.int (i - j))
  | _, _ => none
/-- within 2^64 -/
def s64 (i : Int) : Bool := decide (-(2 ^ 64) < i) && decide (i < 2 ^ 64)
def mulD : D → D → Option D
  | .int i, .int j => if s64 i || s64 j then some (.int (i * j)) else none
  | .list xs, .int j => if s64 j && decide (-(2 ^ 63) ≤ j) && decide (j < 2 ^ 63) && decide (xs.length * j.toNat ≤ sizeLine) then some (.list (List.replicate j.toNat xs).flatten) else none
  | _, _ => none
def fdivD : D → D → Option D
  | .int i, .int j => if j ≠ 0 ∧ j.natAbs < 1073741824 then some (.int (i.fdiv j)) else none
  | _, _ => none
def modD : D → D → Option D
  | .int i, .int j => if j ≠ 0 then some (.int (i.fmod j)) else none
  | _, _ => none
def powD : D → D → Option D
  | .int i, .int j => if 0 ≤ j ∧ j ≤ 1000000 ∧ i.natAbs < 2 ^ 64 then some (.int (i ^ j.toNat)) else none
  | _, _ => none
def negD : D → Option D
  | .int i => some (.int (-i))
  | _ => none

section
variable {X : Cx} {W H : Hp} {Q : VK} {K : PySem.W.Frag} {w : World}
/-- a result that needs no object -/
theorem onV.flat {z : D} {v : V} (h : onV K w W H (some z) Q) (s : Same W H) (r : Rep K w W z v) : Q v H := h W H v (Ex.refl s) r
/-- a new list -/
theorem onV.lst {zs : List D} {vs : List V} {p : Addr} (h : onV K w W H (some (.list zs)) Q) (s : Same W H) (r : RepL K w W zs vs) (n : H p = none) : Q (.ref p) (upd H p (.lst vs)) := by
  have e := Ex.one (o := .lst vs) s n
  refine h _ _ _ e ?_
  simp only [Rep]
  exact ⟨p, vs, rfl, upd_same, RepL.mono e.ext _ _ r⟩
theorem onV.tup {zs : List D} {vs : List V} {p : Addr} (h : onV K w W H (some (.tuple zs)) Q) (s : Same W H) (r : RepL K w W zs vs) (n : H p = none) : Q (.ref p) (upd H p (.tup vs)) := by
  have e := Ex.one (o := .tup vs) s n
  refine h _ _ _ e ?_
  simp only [Rep]
  exact ⟨p, vs, rfl, .of upd_same, RepL.mono e.ext _ _ r⟩
theorem OpR.wk {f : Value → Value → Sem Value} {r r' : R2} (h : OpR X f r) (k : ∀ x y H Q, r' x y H Q → r x y H Q) : OpR X f r' := fun pins s σ H x y v u Q I r1 r2 q => h pins s σ H x y v u Q I r1 r2 (k _ _ _ _ q)
theorem UnR.wk {f : Value → Sem Value} {r r' : V → Hp → VK → Prop} (h : UnR X f r) (k : ∀ x H Q, r' x H Q → r x H Q) : UnR X f r' := fun pins s σ H x v Q I r1 q => h pins s σ H x v Q I r1 (k _ _ _ q)
theorem CallR.wk {f : Value} {r r' : List V → Hp → VK → Prop} (h : CallR X f r) (k : ∀ x H Q, r' x H Q → r x H Q) : CallR X f r' := fun pins s σ H x v Q I r1 q => h pins s σ H x v Q I r1 (k _ _ _ q)

theorem RepL.rep {ds : List D} {vs : List V} (h : RepL K w W ds vs) : ∀ n : Nat, RepL K w W (List.replicate n ds).flatten (List.replicate n vs).flatten
  | 0 => RepL.nil
  | n + 1 => by
    rw [List.replicate_succ, List.replicate_succ, List.flatten_cons, List.flatten_cons]
    exact h.append (RepL.rep h n)
theorem op_addD : OpR X (binaryOp .Add) (tV2 X.K X.w addD) := by
  refine OpR.wk (OpR.or op_add (OpR.or op_add_str (OpR.or op_cat op_catA))) ?_
  rintro v u H Q ⟨W, x, y, s, r1, r2, h⟩
  unfold addD at h
  split at h
  · simp only [Rep] at r1 r2
    subst r1 r2
    exact .inl ⟨_, _, rfl, rfl, h.flat s rfl⟩
  · simp only [Rep] at r1 r2
    subst r1 r2
    split at h
    · rename_i c
      exact .inr (.inl ⟨_, _, rfl, rfl, c, h.flat s rfl⟩)
    · exact h.elim
  · simp only [Rep] at r1 r2
    obtain ⟨a, vs, rfl, q1, l1⟩ := r1
    obtain ⟨b, us, rfl, q2, l2⟩ := r2
    split at h
    · rename_i c
      refine .inr (.inr (.inl ⟨a, b, vs, us, rfl, rfl, s _ _ q1, s _ _ q2, by rw [l1.len, l2.len]; exact c, fun p n => ?_⟩))
      exact h.lst s (l1.append l2) n
    · exact h.elim
  · simp only [Rep] at r1 r2
    obtain ⟨a, vs, rfl, q1, l1⟩ := r1
    obtain ⟨b, us, rfl, q2, l2⟩ := r2
    split at h
    · rename_i c
      refine .inr (.inr (.inr ⟨a, b, vs, us, rfl, rfl, Same.sqt s q1, Same.sqt s q2, by rw [l1.len, l2.len]; exact c, fun z => ?_, fun _ z => ?_, fun _ _ p n => ?_⟩))
      · subst z
        have z := l1.len
        have z : _ = [] := List.eq_nil_of_length_eq_zero z.symm
        subst z
        refine h.flat s ?_
        simp only [Rep, List.nil_append]
        exact ⟨b, us, rfl, q2, l2⟩
      · subst z
        have z := l2.len
        have z : _ = [] := List.eq_nil_of_length_eq_zero z.symm
        subst z
        refine h.flat s ?_
        simp only [Rep, List.append_nil]
        exact ⟨a, vs, rfl, q1, l1⟩
      · exact h.tup s (l1.append l2) n
    · exact h.elim
  · exact h.elim
theorem op_subD : OpR X (binaryOp .Sub) (tV2 X.K X.w subD) := by
  refine OpR.wk op_sub ?_
  rintro v u H Q ⟨W, x, y, s, r1, r2, h⟩
  unfold subD at h
  split at h
  · simp only [Rep] at r1 r2
    subst r1 r2
    exact ⟨_, _, rfl, rfl, h.flat s rfl⟩
  · exact h.elim
theorem s64_iff {i : Int} : s64 i = true ↔ -(2 ^ 64) < i ∧ i < 2 ^ 64 := by simp [s64]
theorem op_mulD : OpR X (binaryOp .Mult) (tV2 X.K X.w mulD) := by
  refine OpR.wk (OpR.or op_mul op_rep) ?_
  rintro v u H Q ⟨W, x, y, s, r1, r2, h⟩
  unfold mulD at h
  split at h
  · simp only [Rep] at r1 r2
    subst r1 r2
    split at h
    · rename_i c
      rw [Bool.or_eq_true, s64_iff, s64_iff] at c
      exact .inl ⟨_, _, rfl, rfl, c, h.flat s rfl⟩
    · exact h.elim
  · simp only [Rep] at r1 r2
    obtain ⟨a, vs, rfl, q1, l1⟩ := r1
    subst r2
    split at h
    · rename_i c
      simp only [Bool.and_eq_true, decide_eq_true_eq] at c
      refine .inr ⟨a, _, vs, rfl, rfl, s _ _ q1, c.1.1.2, c.1.2, by rw [l1.len]; exact c.2, fun p n => ?_⟩
      exact h.lst s (RepL.rep l1 _) n
    · exact h.elim
  · exact h.elim
theorem op_fdivD : OpR X (binaryOp .FloorDiv) (tV2 X.K X.w fdivD) := by
  refine OpR.wk op_fdivN ?_
  rintro v u H Q ⟨W, x, y, s, r1, r2, h⟩
  unfold fdivD at h
  split at h
  · simp only [Rep] at r1 r2
    subst r1 r2
    split at h
    · rename_i c
      exact ⟨_, _, rfl, rfl, c, h.flat s rfl⟩
    · exact h.elim
  · exact h.elim
theorem op_modD : OpR X (binaryOp .Mod) (tV2 X.K X.w modD) := by
  refine OpR.wk op_modN ?_
  rintro v u H Q ⟨W, x, y, s, r1, r2, h⟩
  unfold modD at h
  split at h
  · simp only [Rep] at r1 r2
    subst r1 r2
    split at h
    · rename_i c
      exact ⟨_, _, rfl, rfl, c, h.flat s rfl⟩
    · exact h.elim
  · exact h.elim
theorem op_powD : OpR X (binaryOp .Pow) (tV2 X.K X.w powD) := by
  refine OpR.wk op_pow ?_
  rintro v u H Q ⟨W, x, y, s, r1, r2, h⟩
  unfold powD at h
  split at h
  · simp only [Rep] at r1 r2
    subst r1 r2
    split at h
    · rename_i c
      exact ⟨_, _, rfl, rfl, c, h.flat s rfl⟩
    · exact h.elim
  · exact h.elim
theorem un_negD : UnR X (unaryOp .USub) (tV1 X.K X.w negD) := by
  refine UnR.wk un_neg ?_
  rintro v H Q ⟨W, x, s, r1, h⟩
  unfold negD at h
  split at h
  · simp only [Rep] at r1
    subst r1
    exact ⟨_, rfl, h.flat s rfl⟩
  · exact h.elim
/-! ### comparisons -/
/-- how deep data may be where it is compared -/
def okD (x y : D) : Bool := decide (min x.depth y.depth ≤ 60)
def eqD (x y : D) : Option D := if x.plain && y.plain && okD x y then some (.bool (x.eqv y)) else none
def neD (x y : D) : Option D := if x.plain && y.plain && okD x y then some (.bool (!x.eqv y)) else none
def notNone : D → Bool
  | .none => false
  | _ => true
def ltD (x y : D) : Option D := if PySem.W.alike x y && notNone x && okD x y then some (.bool (PySem.W.dataLt x y)) else none
def gtD (x y : D) : Option D := if PySem.W.alike x y && notNone x && okD x y then some (.bool (PySem.W.dataLt y x)) else none
def leD (x y : D) : Option D := if PySem.W.alike x y && notNone x && okD x y then some (.bool (!PySem.W.dataLt y x)) else none
def geD (x y : D) : Option D := if PySem.W.alike x y && notNone x && okD x y then some (.bool (!PySem.W.dataLt x y)) else none
theorem notNone_ne {x : D} (h : notNone x = true) : x ≠ .none := fun e => by subst e; cases h
theorem op_cmpD {op : CmpOp} {o : D → D → Option D} {b : D → D → Bool} (ho : ∀ x y z, o x y = some z → z = .bool (b x y))
    (rule : ∀ (s : Shared) (x y z : D) (u v : Value) (as bs : List Addr) (Q : Value → Shared → Prop), o x y = some z → Reads s.heap u x as → Reads s.heap v y bs → Q (.bool (b x y)) s → wpAny (model X.prog X.w) X.A (compareOp op u v) Q X.xe s) :
    OpR X (compareOp op) (tV2 X.K X.w o) := by
  intro pins s σ H vx vy u v Q I rx ry h
  obtain ⟨W, x, y, sm, r1, r2, h⟩ := h
  obtain ⟨as, ra⟩ := Rep.reads I sm x vx u r1 rx
  obtain ⟨bs, rb⟩ := Rep.reads I sm y vy v r2 ry
  cases e : o x y with
  | none => rw [e] at h; exact h.elim
  | some z =>
    rw [e] at h
    have ez := ho _ _ _ e
    subst ez
    exact rule s x y _ u v as bs _ e ra rb ⟨.bl _, H, I, rfl, h.flat sm rfl⟩
theorem op_eqD' (hu : X.A.units + 64 < cLine) : OpR X (compareOp .Eq) (tV2 X.K X.w eqD) := by
  refine op_cmpD (b := fun x y => x.eqv y) (fun x y z e => ?_) fun s x y z u v as bs Q e ra rb h => ?_
  · unfold eqD at e; split at e <;> cases e; rfl
  · unfold eqD at e
    split at e
    · rename_i c
      simp only [Bool.and_eq_true, okD, decide_eq_true_eq] at c
      exact PySem.SeqAt.eq_plain ra rb c.1.1 c.1.2 (by omega) h
    · cases e
theorem op_neD' (hu : X.A.units + 64 < cLine) : OpR X (compareOp .NotEq) (tV2 X.K X.w neD) := by
  refine op_cmpD (b := fun x y => !x.eqv y) (fun x y z e => ?_) fun s x y z u v as bs Q e ra rb h => ?_
  · unfold neD at e; split at e <;> cases e; rfl
  · unfold neD at e
    split at e
    · rename_i c
      simp only [Bool.and_eq_true, okD, decide_eq_true_eq] at c
      exact PySem.SeqAt.ne_plain ra rb c.1.1 c.1.2 (by omega) h
    · cases e
theorem op_ltD (hu : X.A.units + 64 < cLine) : OpR X (compareOp .Lt) (tV2 X.K X.w ltD) := by
  refine op_cmpD (b := fun x y => PySem.W.dataLt x y) (fun x y z e => ?_) fun s x y z u v as bs Q e ra rb h => ?_
  · unfold ltD at e; split at e <;> cases e; rfl
  · unfold ltD at e
    split at e
    · rename_i c
      simp only [Bool.and_eq_true, okD, decide_eq_true_eq] at c
      exact PySem.W.lt_data ra rb c.1.1 (notNone_ne c.1.2) (by omega) h
    · cases e
theorem op_gtD (hu : X.A.units + 64 < cLine) : OpR X (compareOp .Gt) (tV2 X.K X.w gtD) := by
  refine op_cmpD (b := fun x y => PySem.W.dataLt y x) (fun x y z e => ?_) fun s x y z u v as bs Q e ra rb h => ?_
  · unfold gtD at e; split at e <;> cases e; rfl
  · unfold gtD at e
    split at e
    · rename_i c
      simp only [Bool.and_eq_true, okD, decide_eq_true_eq] at c
      exact PySem.W.gt_data ra rb c.1.1 (notNone_ne c.1.2) (by omega) h
    · cases e
theorem op_leD (hu : X.A.units + 64 < cLine) : OpR X (compareOp .LtE) (tV2 X.K X.w leD) := by
  refine op_cmpD (b := fun x y => !PySem.W.dataLt y x) (fun x y z e => ?_) fun s x y z u v as bs Q e ra rb h => ?_
  · unfold leD at e; split at e <;> cases e; rfl
  · unfold leD at e
    split at e
    · rename_i c
      simp only [Bool.and_eq_true, okD, decide_eq_true_eq] at c
      exact PySem.W.le_data ra rb c.1.1 (notNone_ne c.1.2) (by omega) h
    · cases e
theorem op_geD (hu : X.A.units + 64 < cLine) : OpR X (compareOp .GtE) (tV2 X.K X.w geD) := by
  refine op_cmpD (b := fun x y => !PySem.W.dataLt x y) (fun x y z e => ?_) fun s x y z u v as bs Q e ra rb h => ?_
  · unfold geD at e; split at e <;> cases e; rfl
  · unfold geD at e
    split at e
    · rename_i c
      simp only [Bool.and_eq_true, okD, decide_eq_true_eq] at c
      exact PySem.W.ge_data ra rb c.1.1 (notNone_ne c.1.2) (by omega) h
    · cases e
end
end DP
set_option Elab.async false
set_option linter.all false
set_option maxRecDepth 100000
/-! DP, part 5: tests, statements, targets, loops. -/
namespace DP
open PySem PySem.Spec PyProof.Rows L2

/-! ### tests -/
def asB (r : D × Ev) : Out (Bool × Ev) := match r.1 with
  | .bool b => .ok (b, r.2)
  | _ => .bad
@[simp] theorem asB_bool (b : Bool) (e : Ev) : asB (.bool b, e) = .ok (b, e) := rfl
def tst (f : XF) : TF := fun env => (f env).bind asB
def tNotF (f : TF) : TF := fun env => (f env).bind fun r => .ok (!r.1, r.2)
def tAndF (f g : TF) : TF := fun env => (f env).bind fun r => if r.1 = true then g r.2 else .ok (false, r.2)
def tOrF (f g : TF) : TF := fun env => (f env).bind fun r => if r.1 = true then .ok (true, r.2) else g r.2
def xIf (c : TF) (f g : XF) : XF := fun env => (c env).bind fun r => if r.1 = true then f r.2 else g r.2
/-- and, or, not as values -/
def xBool (f : TF) : XF := fun env => (f env).bind fun r => .ok (.bool r.1, r.2)

section
variable {X : Cx} {Wx : WX} {a b c : Expr} {f g : XF} {tf tg : TF} {rest : List Expr} {pos : Pos}
theorem et_val (h : EX X Wx a f) (he : ∀ whole, isTrue a X.env whole = (do let v ← whole; standAt a.pos; holding [v] (truthy v)) := by intro _; rfl) : ET X Wx a (tst f) := by
  refine PT.wk (pt_val h he) ?_
  rintro σ H Q ⟨ρ, W, env, A, S, h⟩
  refine tG_then S h fun d W1 H1 env1 A1 v S1 F1 r1 h1 => ?_
  unfold asB at h1
  split at h1
  · rename_i b e
    simp only at e
    subst e
    simp only [Rep] at r1
    exact ⟨b, r1, h1 W1 H1 A1 b S1 (Fr.refl _ _ _) rfl⟩
  · exact h1.elim
theorem et_not (h : ET X Wx a tf) : ET X Wx (.UnaryOp .Not a pos) (tNotF tf) := by
  refine PT.wk (pt_not h) ?_
  rintro σ H Q ⟨ρ, W, env, A, S, h⟩
  refine tG_then S h fun d W1 H1 env1 A1 v S1 F1 r1 h1 => ?_
  subst r1
  exact h1 W1 H1 A1 _ S1 (Fr.refl _ _ _) rfl
theorem ew_and1 (h : ET X Wx a tf) : PW X (.BoolOp .And [a] pos) (tT X Wx tf) := pw_and1 h
theorem ew_or1 (h : ET X Wx a tf) : PW X (.BoolOp .Or [a] pos) (tT X Wx tf) := pw_or1 h
theorem ew_and (h : ET X Wx a tf) (k : PW X (.BoolOp .And (b :: rest) pos) (tT X Wx tg)) : PW X (.BoolOp .And (a :: b :: rest) pos) (tT X Wx (tAndF tf tg)) := by
  refine PW.wk (pw_and h k) ?_
  rintro σ H Q ⟨ρ, W, env, A, S, h⟩
  refine tG_then S h fun d W1 H1 env1 A1 v S1 F1 r1 h1 => ?_
  subst r1
  cases v with
  | true => exact iteT ⟨ρ, W1, env1, A1, S1, h1⟩
  | false => exact iteF (h1 W1 H1 A1 _ S1 (Fr.refl _ _ _) rfl)
theorem ew_or (h : ET X Wx a tf) (k : PW X (.BoolOp .Or (b :: rest) pos) (tT X Wx tg)) : PW X (.BoolOp .Or (a :: b :: rest) pos) (tT X Wx (tOrF tf tg)) := by
  refine PW.wk (pw_or h k) ?_
  rintro σ H Q ⟨ρ, W, env, A, S, h⟩
  refine tG_then S h fun d W1 H1 env1 A1 v S1 F1 r1 h1 => ?_
  subst r1
  cases v with
  | true => exact iteT (h1 W1 H1 A1 _ S1 (Fr.refl _ _ _) rfl)
  | false => exact iteF ⟨ρ, W1, env1, A1, S1, h1⟩
theorem et_bool (h : PW X a (tT X Wx tf)) : ET X Wx a tf := h.pt
theorem ex_if (hc : ET X Wx c tf) (ha : EX X Wx a f) (hb : EX X Wx b g) : EX X Wx (.IfExp c a b pos) (xIf tf f g) := by
  refine PE.wk (pe_ifExp hc ha hb) ?_
  rintro σ H Q ⟨ρ, W, env, A, S, h⟩
  refine tG_then S h fun d W1 H1 env1 A1 v S1 F1 r1 h1 => ?_
  subst r1
  cases v with
  | true => exact iteT ⟨ρ, W1, env1, A1, S1, h1⟩
  | false => exact iteF ⟨ρ, W1, env1, A1, S1, h1⟩
/-- and, or, not as values: all of them bools -/
theorem ex_one {op : BoolOp} (h : EX X Wx a f) : EX X Wx (.BoolOp op [a] pos) (xBool (tst f)) := by
  refine PE.wk (pe_one h) ?_
  rintro σ H Q ⟨ρ, W, env, A, S, h⟩
  unfold xBool tst at h
  refine ⟨ρ, W, env, A, S, ?_⟩
  cases e : f env with
  | bad => rw [e] at h; exact h.elim
  | exc c d e' => rw [e] at h; exact h
  | ok r =>
    obtain ⟨d, e1⟩ := r
    rw [e] at h
    cases d with
    | bool b => exact h
    | _ => exact h.elim
theorem xb_then {R : Hp → Bool → Bool → Prop} {ρ : Nat → Addr} {σ : L2.St} {W H : Hp} {A : List (List Addr)} {env : Ev} {k : Bool × Ev → Out (D × Ev)} {Q : VK} {Q' : VK}
    (S : SR X.K X.w ρ W H env σ A) (h : onX X Wx ρ σ W H A ((xBool tf env).bind fun r => match r.1 with | .bool b => k (b, r.2) | _ => .bad) Q)
    (n : ∀ b W1 H1 env1 A1, SR X.K X.w ρ W1 H1 env1 σ A1 → Fr W H (ownd A) W1 H1 (ownd A1) → onX X Wx ρ σ W1 H1 A1 (k (b, env1)) Q → Q' (.bl b) H1) : tX X Wx (xBool tf) σ H Q' := by
  refine tG_then S h fun d W1 H1 env1 A1 v S1 F1 r1 h1 => ?_
  cases d with
  | bool b =>
    simp only [Rep] at r1
    subst r1
    exact n b W1 H1 env1 A1 S1 F1 h1
  | _ => exact h1.elim
theorem ex_tst (h : EX X Wx a f) : EX X Wx a (xBool (tst f)) := by
  refine PE.wk h ?_
  rintro σ H Q ⟨ρ, W, env, A, S, h⟩
  unfold xBool tst at h
  refine ⟨ρ, W, env, A, S, ?_⟩
  cases e : f env with
  | bad => rw [e] at h; exact h.elim
  | exc c d e' => rw [e] at h; exact h
  | ok r =>
    obtain ⟨d, e1⟩ := r
    rw [e] at h
    cases d with
    | bool b => exact h
    | _ => exact h.elim
theorem ex_and (h : EX X Wx a f) (k : EX X Wx (.BoolOp .And (b :: rest) pos) (xBool tg)) : EX X Wx (.BoolOp .And (a :: b :: rest) pos) (xBool (tAndF (tst f) tg)) := by
  refine PE.wk (pe_and h k) ?_
  rintro σ H Q ⟨ρ, W, env, A, S, h⟩
  unfold xBool tAndF tst at h
  refine ⟨ρ, W, env, A, S, ?_⟩
  cases e : f env with
  | bad => rw [e] at h; exact h.elim
  | exc c d e' => rw [e] at h; exact h
  | ok r =>
    obtain ⟨d, e1⟩ := r
    rw [e] at h
    cases d with
    | bool b =>
      intro W' H' A' v S' F' r'
      simp only [Rep] at r'
      subst r'
      refine ⟨b, rfl, ?_⟩
      simp only [Out.bind_ok, asB] at h
      cases b with
      | true => exact iteT ⟨ρ, W', e1, A', S', onG_fr h F'⟩
      | false => exact iteF (h W' H' A' _ S' F' rfl)
    | _ => exact h.elim
theorem ex_or (h : EX X Wx a f) (k : EX X Wx (.BoolOp .Or (b :: rest) pos) (xBool tg)) : EX X Wx (.BoolOp .Or (a :: b :: rest) pos) (xBool (tOrF (tst f) tg)) := by
  refine PE.wk (pe_or h k) ?_
  rintro σ H Q ⟨ρ, W, env, A, S, h⟩
  unfold xBool tOrF tst at h
  refine ⟨ρ, W, env, A, S, ?_⟩
  cases e : f env with
  | bad => rw [e] at h; exact h.elim
  | exc c d e' => rw [e] at h; exact h
  | ok r =>
    obtain ⟨d, e1⟩ := r
    rw [e] at h
    cases d with
    | bool b =>
      intro W' H' A' v S' F' r'
      simp only [Rep] at r'
      subst r'
      refine ⟨b, rfl, ?_⟩
      simp only [Out.bind_ok, asB] at h
      cases b with
      | true => exact iteT (h W' H' A' _ S' F' rfl)
      | false => exact iteF ⟨ρ, W', e1, A', S', onG_fr h F'⟩
    | _ => exact h.elim
theorem ex_not (h : EX X Wx a f) : EX X Wx (.UnaryOp .Not a pos) (xBool (tNotF (tst f))) := by
  refine PE.wk (pe_not h) ?_
  rintro σ H Q ⟨ρ, W, env, A, S, h⟩
  unfold xBool tNotF tst at h
  refine ⟨ρ, W, env, A, S, ?_⟩
  cases e : f env with
  | bad => rw [e] at h; exact h.elim
  | exc c d e' => rw [e] at h; exact h
  | ok r =>
    obtain ⟨d, e1⟩ := r
    rw [e] at h
    cases d with
    | bool b =>
      intro W' H' A' v S' F' r'
      simp only [Rep] at r'
      subst r'
      exact ⟨b, rfl, h W' H' A' _ S' F' rfl⟩
    | _ => exact h.elim
/-- is None, is not None -/
def isNb : D → Bool
  | .none => true
  | _ => false
def isN (x : D) : Option D := some (.bool (isNb x))
def notN (x : D) : Option D := some (.bool (!isNb x))
theorem rep_non {K : PySem.W.Frag} {w : World} {W : Hp} {x : D} {v : V} (r : Rep K w W x v) : decide (v = .non) = isNb x := by
  cases x <;> simp only [Rep] at r
  · subst r; rfl
  · subst r; rfl
  · subst r; rfl
  · subst r; rfl
  · obtain ⟨a, vs, rfl, _⟩ := r; rfl
  · obtain ⟨a, vs, rfl, _⟩ := r; rfl
  · obtain ⟨a, es, ep, rfl, _⟩ := r; rfl
theorem ex_isN {j p2} (h : EX X Wx a f) : EX X Wx (.Compare a [.Is] [.Constant .none j p2] pos) (x1 isN f) := by
  refine PE.wk (pe_cmp (pc_isN h)) ?_
  rintro σ H Q ⟨ρ, W, env, A, S, h⟩
  refine tG_then S h fun d W1 H1 env1 A1 v S1 F1 r1 h1 => ?_
  rw [rep_non r1]
  exact (onV_of S1 h1).flat S1.sub rfl
theorem ex_notN {j p2} (h : EX X Wx a f) : EX X Wx (.Compare a [.IsNot] [.Constant .none j p2] pos) (x1 notN f) := by
  refine PE.wk (pe_cmp (pc_notN h)) ?_
  rintro σ H Q ⟨ρ, W, env, A, S, h⟩
  refine tG_then S h fun d W1 H1 env1 A1 v S1 F1 r1 h1 => ?_
  rw [rep_non r1]
  exact (onV_of S1 h1).flat S1.sub rfl
/-- a < b < c -/
def xChain (o o' : D → D → Option D) (f g k : XF) : XF := fun env => (f env).bind fun r => (g r.2).bind fun q => (liftO (o r.1 q.1) q.2).bind fun t => (asB t).bind fun t => if t.1 = true then (k t.2).bind fun u => (liftO (o' q.1 u.1) u.2).bind fun z => .ok z else .ok (.bool false, t.2)
end

/-! ### statements -/
inductive Fl where
  | nx
  | rt (d : D)
  | bk
  | ct
abbrev SF := Ev → Out (Fl × Ev)
def onS (X : Cx) (Wx : WX) (ρ : Nat → Addr) (W H : Hp) (A : List (List Addr)) (o : Out (Fl × Ev)) (D : Ends) : Prop :=
  match o with
  | .ok (fl, env') => ∀ W' H' A' σ', SR X.K X.w ρ W' H' env' σ' A' → Fr W H (ownd A) W' H' (ownd A') → match fl with
    | .nx => D.nx σ' H'
    | .bk => D.bk σ' H'
    | .ct => D.ct σ' H'
    | .rt d => ∀ v, Rep X.K X.w W' d v → D.rt v H'
  | .exc c d env' => ∀ C W' H' A' σ' dx v, X.mg c = some (.ref C) → SR X.K X.w ρ W' H' env' σ' A' → Fr W H (ownd A) W' H' (ownd A') → H' dx = some (.xd [("at", v)]) → Rep X.K X.w W' d v → Wx (.ref C) (some dx) σ' H'
  | .bad => False
def tS (X : Cx) (Wx : WX) (f : SF) : TS := fun D σ H => ∃ ρ W env A, SR X.K X.w ρ W H env σ A ∧ onS X Wx ρ W H A (f env) D
abbrev ES (X : Cx) (Wx : WX) (st : Stmt) (f : SF) : Prop := PS X st (tS X Wx f)
abbrev EB (X : Cx) (Wx : WX) (st : List Stmt) (f : SF) : Prop := PSs X st (tS X Wx f)
section
variable {X : Cx} {Wx : WX} {ρ : Nat → Addr} {σ : L2.St} {W H W1 H1 : Hp} {A A1 : List (List Addr)} {o : Out (Fl × Ev)} {D : Ends} {env : Ev}
theorem onS_fr (h : onS X Wx ρ W H A o D) (F : Fr W H (ownd A) W1 H1 (ownd A1)) : onS X Wx ρ W1 H1 A1 o D := by
  cases o with
  | ok r => exact fun W' H' A' σ' S' F' => h W' H' A' σ' S' (F.trans F')
  | exc c d e => exact fun C W' H' A' σ' dx v g S' F' x r' => h C W' H' A' σ' dx v g S' (F.trans F') x r'
  | bad => exact h
/-- an expression within a statement -/
theorem tS_then {α β : Type} {R : Hp → α → β → Prop} {f : Ev → Out (α × Ev)} {k : α × Ev → Out (Fl × Ev)} {Q' : β → Hp → Prop}
    (S : SR X.K X.w ρ W H env σ A) (h : onS X Wx ρ W H A ((f env).bind k) D)
    (n : ∀ d W1 H1 env1 A1 v, SR X.K X.w ρ W1 H1 env1 σ A1 → Fr W H (ownd A) W1 H1 (ownd A1) → R W1 d v → onS X Wx ρ W1 H1 A1 (k (d, env1)) D → Q' v H1) : tG X.K X.w X.mg Wx R f σ H Q' := by
  refine ⟨ρ, W, env, A, S, ?_⟩
  cases e : f env with
  | ok r =>
    rw [e, Out.bind_ok] at h
    obtain ⟨d, env1⟩ := r
    exact fun W1 H1 A1 v S1 F1 r1 => n d W1 H1 env1 A1 v S1 F1 r1 (onS_fr h F1)
  | exc c d e' =>
    rw [e, Out.bind_exc] at h
    exact fun C W' H' A' dx v g S' F' x r' => h C W' H' A' σ dx v g S' F' x r'
  | bad => rw [e, Out.bind_bad] at h; exact h.elim
end

def sNext : SF := fun env => .ok (.nx, env)
def sBrk : SF := fun env => .ok (.bk, env)
def sCont : SF := fun env => .ok (.ct, env)
def sSeq (f g : SF) : SF := fun env => (f env).bind fun r => match r.1 with
  | .nx => g r.2
  | fl => .ok (fl, r.2)
def sSet (i : Nat) (f : XF) : SF := fun env => (f env).bind fun r => .ok (.nx, r.2.set i (.fz r.1))
def sDrop (f : XF) : SF := fun env => (f env).bind fun r => .ok (.nx, r.2)
def sRet (f : XF) : SF := fun env => (f env).bind fun r => .ok (.rt r.1, r.2)
def sRetN : SF := fun env => .ok (.rt .none, env)
def sIf (c : TF) (f g : SF) : SF := fun env => (c env).bind fun r => if r.1 = true then f r.2 else g r.2
section
variable {X : Cx} {Wx : WX} {a b c e : Expr} {st : Stmt} {rest ss ss' : List Stmt} {f g : XF} {tf : TF} {u v : SF} {pos : Pos}
theorem es_nil : EB X Wx [] sNext := by
  refine PSs.wk pss_nil ?_
  rintro D σ H ⟨ρ, W, env, A, S, h⟩
  exact h W H A σ S (Fr.refl _ _ _)
theorem es_pass : ES X Wx (.Pass pos) sNext := by
  refine PS.wk ps_pass ?_
  rintro D σ H ⟨ρ, W, env, A, S, h⟩
  exact h W H A σ S (Fr.refl _ _ _)
theorem es_doc {x j p2} : ES X Wx (.Expr (.Constant (.str x) j p2) pos) sNext := by
  refine PS.wk ps_doc ?_
  rintro D σ H ⟨ρ, W, env, A, S, h⟩
  exact h W H A σ S (Fr.refl _ _ _)
theorem es_break : ES X Wx (.Break pos) sBrk := by
  refine PS.wk ps_break ?_
  rintro D σ H ⟨ρ, W, env, A, S, h⟩
  exact h W H A σ S (Fr.refl _ _ _)
theorem es_continue : ES X Wx (.Continue pos) sCont := by
  refine PS.wk ps_continue ?_
  rintro D σ H ⟨ρ, W, env, A, S, h⟩
  exact h W H A σ S (Fr.refl _ _ _)
theorem es_one (h : ES X Wx st u) : EB X Wx [st] u := pss_one h
theorem es_seq (h : ES X Wx st u) (k : EB X Wx rest v) : EB X Wx (st :: rest) (sSeq u v) := by
  refine PSs.wk (pss_cons h k) ?_
  rintro D σ H ⟨ρ, W, env, A, S, h⟩
  refine ⟨ρ, W, env, A, S, ?_⟩
  unfold sSeq at h
  cases e : u env with
  | bad => rw [e] at h; exact h.elim
  | exc c d e' => rw [e] at h; exact h
  | ok r =>
    rw [e, Out.bind_ok] at h
    obtain ⟨fl, e1⟩ := r
    cases fl with
    | nx => exact fun W' H' A' σ' S' F' => ⟨ρ, W', e1, A', S', onS_fr h F'⟩
    | rt d => exact h
    | bk => exact h
    | ct => exact h
theorem es_ret (h : EX X Wx e f) : ES X Wx (.Return (some e) pos) (sRet f) := by
  refine PS.wk (ps_ret h) ?_
  rintro D σ H ⟨ρ, W, env, A, S, h⟩
  exact tS_then S h fun d W1 H1 env1 A1 v S1 F1 r1 h1 => h1 W1 H1 A1 σ S1 (Fr.refl _ _ _) v r1
theorem es_retN : ES X Wx (.Return none pos) sRetN := by
  refine PS.wk ps_retN ?_
  rintro D σ H ⟨ρ, W, env, A, S, h⟩
  exact h W H A σ S (Fr.refl _ _ _) _ rfl
theorem es_if (hc : ET X Wx c tf) (ha : EB X Wx ss u) (hb : EB X Wx ss' v) : ES X Wx (.If c ss ss' pos) (sIf tf u v) := by
  refine PS.wk (ps_if hc ha hb) ?_
  rintro D σ H ⟨ρ, W, env, A, S, h⟩
  refine tS_then S h fun d W1 H1 env1 A1 b S1 F1 r1 h1 => ?_
  subst r1
  cases b with
  | true => exact iteT ⟨ρ, W1, env1, A1, S1, h1⟩
  | false => exact iteF ⟨ρ, W1, env1, A1, S1, h1⟩
theorem es_drop (h : EX X Wx e f) (hs : swapsWith e none pos.line X.env = pure false := by rfl) : ES X Wx (.Expr e pos) (sDrop f) := by
  refine PS.wk (ps_expr h hs) ?_
  rintro D σ H ⟨ρ, W, env, A, S, h⟩
  exact tS_then S h fun d W1 H1 env1 A1 v S1 F1 r1 h1 => h1 W1 H1 A1 σ S1 (Fr.refl _ _ _)
theorem fr_nil {W H : Hp} {A : List (List Addr)} (i : Nat) : Fr W H (ownd A) W H (ownd (A.set i [])) := ⟨Same.refl _, fun _ _ h _ => h, fun _ h1 h2 => absurd h2 h1, fun _ h => .inl (ownd_nil h)⟩
theorem es_set {i : Nat} {x : Str} {p2 : Pos} (hN : X.N.Nodup) (hi : X.N[i]? = some x) (hx : Loc X.env.scope x) (h : EX X Wx e f) (hs : swapsWith e (some (.Name x p2)) pos.line X.env = pure false := by rfl)
    (hf : X.fn x = true ∨ X.env.scope.names.lookup x = some .local := by first | exact .inl rfl | exact .inr rfl | assumption) : ES X Wx (.Assign [.Name x p2] e pos) (sSet i f) := by
  refine PS.wk (ps_set hN hi hx h hs hf) ?_
  rintro D σ H ⟨ρ, W, env, A, S, h⟩
  exact tS_then S h fun d W1 H1 env1 A1 v S1 F1 r1 h1 => h1 W1 H1 _ _ (S1.setFz i r1) (fr_nil i)
end

/-! ### targets -/
abbrev GF := D → Ev → Option Ev
abbrev GLF := List D → Ev → Option Ev
def gN (i : Nat) : GF := fun d env => some (env.set i (.fz d))
def glNil : GLF := fun ds env => match ds with
  | [] => some env
  | _ => none
def glCons (g : GF) (k : GLF) : GLF := fun ds env => match ds with
  | [] => none
  | d :: r => (g d env).bind (k r)
def gT (k : GLF) : GF := fun d env => match d with
  | .tuple ds => k ds env
  | _ => none
/-- alike but for the slots vs -/
def Agr (vs : List Nat) (σ σ' : L2.St) : Prop := σ'.length = σ.length ∧ ∀ j : Nat, j ∉ vs → σ'[j]? = σ[j]?
theorem Agr.refl (vs : List Nat) (σ : L2.St) : Agr vs σ σ := ⟨rfl, fun _ _ => rfl⟩
theorem Agr.set {i : Nat} {σ : L2.St} {x : Option V} : Agr [i] σ (σ.set i x) := ⟨by simp, fun j hj => List.getElem?_set_ne (fun e => hj (by simp [e]))⟩
theorem Agr.trans {vs us : List Nat} {σ σ1 σ2 : L2.St} (a : Agr vs σ σ1) (b : Agr us σ1 σ2) : Agr (vs ++ us) σ σ2 :=
  ⟨b.1.trans a.1, fun j hj => (b.2 j fun h => hj (List.mem_append_right _ h)).trans (a.2 j fun h => hj (List.mem_append_left _ h))⟩
theorem Agr.mono {vs us : List Nat} {σ σ1 : L2.St} (a : Agr vs σ σ1) (h : ∀ j ∈ vs, j ∈ us) : Agr us σ σ1 := ⟨a.1, fun j hj => a.2 j fun z => hj (h j z)⟩
section
variable (X : Cx)
def tGt (vs : List Nat) (g : GF) : TG := fun v σ H Q => ∃ ρ W env A d env', SR X.K X.w ρ W H env σ A ∧ Rep X.K X.w W d v ∧ g d env = some env' ∧ ∀ σ' A', SR X.K X.w ρ W H env' σ' A' → (∀ p, ownd A' p → ownd A p) → Agr vs σ σ' → Q σ' H
def tGl (vs : List Nat) (g : GLF) : TGs := fun us σ H Q => ∃ ρ W env A ds env', SR X.K X.w ρ W H env σ A ∧ RepL X.K X.w W ds us ∧ g ds env = some env' ∧ ∀ σ' A', SR X.K X.w ρ W H env' σ' A' → (∀ p, ownd A' p → ownd A p) → Agr vs σ σ' → Q σ' H
end
abbrev EG (X : Cx) (t : Expr) (vs : List Nat) (g : GF) : Prop := PG X t (tGt X vs g)
abbrev EGs (X : Cx) (ts : List Expr) (vs : List Nat) (g : GLF) : Prop := PGs X ts (tGl X vs g)
theorem PG.wk {X : Cx} {e : Expr} {t t' : TG} (h : PG X e t) (k : ∀ v σ H Q, t' v σ H Q → t v σ H Q) : PG X e t' := ⟨fun pins s σ H v u Q I r q => h.run pins s σ H v u Q I r (k v σ H Q q)⟩
theorem PGs.wk {X : Cx} {es : List Expr} {t t' : TGs} (h : PGs X es t) (k : ∀ v σ H Q, t' v σ H Q → t v σ H Q) : PGs X es t' := ⟨fun pins s σ H v u Q I r q => h.run pins s σ H v u Q I r (k v σ H Q q)⟩
section
variable {X : Cx} {Wx : WX} {e : Expr} {es : List Expr} {vs us : List Nat} {g : GF} {k : GLF} {pos : Pos} {f : XF}
theorem eg_name {i : Nat} {x : Str} (hN : X.N.Nodup) (hi : X.N[i]? = some x) (hx : Loc X.env.scope x) (hf : X.fn x = true ∨ X.env.scope.names.lookup x = some .local := by first | exact .inl rfl | exact .inr rfl | assumption) : EG X (.Name x pos) [i] (gN i) := by
  refine PG.wk (pg_name hN hi hx hf) ?_
  rintro v σ H Q ⟨ρ, W, env, A, d, env', S, r, e, q⟩
  cases e
  exact q _ _ (S.setFz i r) (fun p h => ownd_nil h) Agr.set
theorem egs_nil : EGs X [] [] glNil := by
  refine PGs.wk pgs_nil ?_
  rintro vs σ H Q ⟨ρ, W, env, A, ds, env', S, r, e, q⟩
  unfold glNil at e
  split at e
  · cases e
    simp only [RepL] at r
    exact ⟨r, q σ A S (fun _ h => h) (Agr.refl _ _)⟩
  · cases e
theorem egs_cons (h : EG X e vs g) (t : EGs X es us k) (hs : (assignEach (e :: es) X.env).map (·.2) = assign e X.env :: (assignEach es X.env).map (·.2) := by rfl) : EGs X (e :: es) (vs ++ us) (glCons g k) := by
  refine PGs.wk (pgs_cons h t hs) ?_
  rintro ws σ H Q ⟨ρ, W, env, A, ds, env', S, r, e, q⟩
  unfold glCons at e
  split at e
  · cases e
  · rename_i d r'
    simp only [RepL] at r
    obtain ⟨v, vr, rfl, r1, r2⟩ := r
    obtain ⟨env1, e1, e2⟩ := Option.bind_eq_some_iff.mp e
    refine ⟨v, vr, rfl, ρ, W, env, A, d, env1, S, r1, e1, fun σ1 A1 S1 p1 a1 => ?_⟩
    exact ⟨ρ, W, env1, A1, r', env', S1, r2, e2, fun σ2 A2 S2 p2 a2 => q σ2 A2 S2 (fun p h => p1 p (p2 p h)) (a1.trans a2)⟩
theorem eg_tup {j : Nat} {n : Nat} (hc : X.calm = true) (h : EGs X es vs k) (hk : ∀ ds env, (k ds env).isSome = true → ds.length = n) (hn : (assignEach es X.env).length = n := by rfl) (hst : (assignEach es X.env).findIdx? (·.1) = none := by rfl) : EG X (.Tuple es j pos) vs (gT k) := by
  refine PG.wk (pg_tup hc h hn hst) ?_
  rintro v σ H Q ⟨ρ, W, env, A, d, env', S, r, e, q⟩
  cases d with
  | tuple ds =>
    simp only [Rep] at r
    obtain ⟨a, vs, rfl, q1, r1⟩ := r
    have e' : k ds env = some env' := e
    have hl := hk ds env (by rw [e']; rfl)
    exact ⟨a, vs, rfl, Same.sqt S.sub q1, r1.len.trans hl, ρ, W, env, A, ds, env', S, r1, e, q⟩
  | _ => cases e
theorem glNil_len (ds : List D) (env : Ev) (h : (glNil ds env).isSome = true) : ds.length = 0 := by
  cases ds with
  | nil => rfl
  | cons _ _ => cases h
theorem glCons_len {g : GF} {k : GLF} {n : Nat} (hk : ∀ ds env, (k ds env).isSome = true → ds.length = n) (ds : List D) (env : Ev) (h : (glCons g k ds env).isSome = true) : ds.length = n + 1 := by
  cases ds with
  | nil => cases h
  | cons d r =>
    have h' : ((g d env).bind (k r)).isSome = true := h
    cases e : g d env with
    | none => rw [e] at h'; cases h'
    | some e1 =>
      rw [e] at h'
      simp only [List.length_cons]
      rw [hk r e1 h']
/-- a, b = e: e is a tuple -/
def sAsg (g : GF) (f : XF) : SF := fun env => (f env).bind fun r => match g r.1 r.2 with
  | some e => .ok (.nx, e)
  | none => .bad
theorem fr_sub {W H : Hp} {A A' : List (List Addr)} (h : ∀ p, ownd A' p → ownd A p) : Fr W H (ownd A) W H (ownd A') := ⟨Same.refl _, fun _ _ h _ => h, fun _ h1 h2 => absurd h2 h1, fun p q => .inl (h p q)⟩
theorem es_asg {tg : Expr} (h : EX X Wx e f) (hg : EG X tg vs g) (hs : swapsWithSole [tg] e pos.line X.env = pure false := by rfl) (hw : swappedStores [tg] e X.env = pure none := by rfl)
    (h1 : (assignEach [tg] X.env).map (·.2) = [assign tg X.env] := by rfl) : ES X Wx (.Assign [tg] e pos) (sAsg g f) := by
  refine PS.wk (ps_asg h hg hs hw h1) ?_
  rintro D σ H ⟨ρ, W, env, A, S, h⟩
  refine tS_then S h fun d W1 H1 env1 A1 v S1 F1 r1 h1 => ?_
  simp only at h1
  cases e : g d env1 with
  | none => rw [e] at h1; exact h1.elim
  | some env2 =>
    rw [e] at h1
    exact ⟨ρ, W1, env1, A1, d, env2, S1, r1, e, fun σ2 A2 S2 p2 _ => h1 W1 H1 A2 σ2 S2 (fr_sub p2)⟩
end
end DP
set_option Elab.async false
set_option linter.all false
set_option maxRecDepth 100000
/-! DP, part 6: what is walked, for, while, comprehensions. -/
namespace DP
open PySem PySem.Spec PyProof.Rows L2

/-- J yields the data xs, whatever grows around it -/
structure Wk (K : PySem.W.Frag) (w : World) (W : Hp) (xs : List D) (J : It) : Prop where
  go : ∀ i H W2, Same W W2 → Same W2 H → i < xs.length → J.go i H
  stop : ∀ i H W2, Same W W2 → Same W2 H → xs.length ≤ i → J.stop i H
  yld : ∀ i H W2 v H' x, Same W W2 → Same W2 H → xs[i]? = some x → J.yld i H v H' → ∃ W', Ex W2 H W' H' ∧ Rep K w W' x v
abbrev IF := Ev → Out (List D × Ev)
abbrev tI (X : Cx) (Wx : WX) (f : IF) : TI := fun σ H R => tG X.K X.w X.mg Wx (fun W xs J => Wk X.K X.w W xs J) f σ H R
abbrev EI (X : Cx) (Wx : WX) (tg e : Expr) (f : IF) : Prop := PI X tg e (tI X Wx f)

/-! ### for -/
def forL (g : GF) (body : SF) : List D → SF
  | [], env => .ok (.nx, env)
  | x :: xs, env => match g x env with
    | none => .bad
    | some e1 => (body e1).bind fun r => match r.1 with
      | .nx => forL g body xs r.2
      | .ct => forL g body xs r.2
      | .bk => .ok (.nx, r.2)
      | .rt d => .ok (.rt d, r.2)
def sFor (it : IF) (g : GF) (body : SF) : SF := fun env => (it env).bind fun r => forL g body r.1 r.2

section
variable {X : Cx} {Wx : WX} {tg iter c : Expr} {body : List Stmt} {it : IF} {vs : List Nat} {g : GF} {b : SF} {tf : TF} {pos : Pos}
theorem es_for (hp : PassesOwn (model X.prog X.w) X.A X.env X.xe) (hc : X.calm = true) (hi : EI X Wx tg iter it) (hg : EG X tg vs g) (hb : EB X Wx body b)
    (hs : ∀ x, foldedSetIterable iter X.env x = pure x := by intro _; rfl) : ES X Wx (.For tg iter body [] pos) (sFor it g b) := by
  refine PS.wk (ps_for hp hc hi hg hb hs) ?_
  rintro D σ H ⟨ρ, W, env, A, S, h⟩
  refine tS_then S h fun xs W1 H1 env1 A1 J S1 F1 wk h1 => ?_
  refine ⟨fun i m σ H => m = xs.length - i ∧ i ≤ xs.length ∧ ∃ W2 env2 A2, SR X.K X.w ρ W2 H env2 σ A2 ∧ Same W1 W2 ∧ onS X Wx ρ W2 H A2 (forL g b (xs.drop i) env2) D,
    ⟨xs.length, by simp, Nat.zero_le _, W1, env1, A1, S1, Same.refl _, h1⟩, ?_⟩
  rintro i m σ2 H2 ⟨rfl, hi, W2, env2, A2, S2, s2, h2⟩
  by_cases hlt : i < xs.length
  · obtain ⟨x, hx⟩ : ∃ x, xs[i]? = some x := ⟨_, List.getElem?_eq_getElem hlt⟩
    have hd : xs.drop i = x :: xs.drop (i + 1) := by
      have e1 := List.drop_eq_getElem_cons hlt
      rw [List.getElem?_eq_getElem hlt] at hx
      cases hx
      exact e1
    rw [hd] at h2
    unfold forL at h2
    refine .inr ⟨wk.go i H2 W2 s2 S2.sub hlt, fun σ' H' => i + 1 ≤ xs.length ∧ ∃ W2 env2 A2, SR X.K X.w ρ W2 H' env2 σ' A2 ∧ Same W1 W2 ∧ onS X Wx ρ W2 H' A2 (forL g b (xs.drop (i + 1)) env2) D,
      fun σ' H' ⟨n1, n2⟩ => ⟨xs.length - (i + 1), by omega, rfl, n1, n2⟩, fun v H3 y => ?_⟩
    obtain ⟨W3, e3, r3⟩ := wk.yld i H2 W2 v H3 x s2 S2.sub hx y
    have S3 := S2.ex e3
    cases eg : g x env2 with
    | none => rw [eg] at h2; exact h2.elim
    | some env3 =>
      rw [eg] at h2
      simp only at h2
      refine ⟨ρ, W3, env2, A2, x, env3, S3, r3, eg, fun σ4 A4 S4 p4 _ => ⟨ρ, W3, env3, A4, S4, ?_⟩⟩
      have F4 : Fr W2 H2 (ownd A2) W3 H3 (ownd A4) := (e3.fr _).trans (fr_sub p4)
      have h4 := onS_fr h2 F4
      cases eb : b env3 with
      | bad => rw [eb] at h4; exact h4.elim
      | exc cc d e => rw [eb] at h4; exact h4
      | ok r =>
        obtain ⟨fl, env5⟩ := r
        rw [eb, Out.bind_ok] at h4
        cases fl with
        | nx => exact fun W5 H5 A5 σ5 S5 F5 => ⟨hlt, W5, env5, A5, S5, (s2.trans e3.ext).trans F5.ext, onS_fr h4 F5⟩
        | ct => exact fun W5 H5 A5 σ5 S5 F5 => ⟨hlt, W5, env5, A5, S5, (s2.trans e3.ext).trans F5.ext, onS_fr h4 F5⟩
        | bk => exact h4
        | rt d => exact h4
  · have ei : i = xs.length := by omega
    subst ei
    refine .inl ⟨wk.stop _ H2 W2 s2 S2.sub (Nat.le_refl _), ?_⟩
    rw [List.drop_length] at h2
    exact h2 W2 H2 A2 σ2 S2 (Fr.refl _ _ _)

/-! ### while -/
def whL (c : TF) (body : SF) : Nat → SF
  | 0, _ => .bad
  | n + 1, env => (c env).bind fun r => if r.1 = true then (body r.2).bind fun q => match q.1 with
      | .nx => whL c body n q.2
      | .ct => whL c body n q.2
      | .bk => .ok (.nx, q.2)
      | .rt d => .ok (.rt d, q.2) else .ok (.nx, r.2)
theorem es_while {n : Nat} (hp : PassesOwn (model X.prog X.w) X.A X.env X.xe) (hc : ET X Wx c tf) (hb : EB X Wx body b) : ES X Wx (.While c body [] pos) (whL tf b n) := by
  refine PS.wk (ps_while hp hc hb) ?_
  rintro D σ H ⟨ρ, W, env, A, S, h⟩
  refine ⟨fun m σ H => ∃ W2 env2 A2, SR X.K X.w ρ W2 H env2 σ A2 ∧ onS X Wx ρ W2 H A2 (whL tf b m env2) D, ⟨n, W, env, A, S, h⟩, ?_⟩
  rintro m σ1 H1 ⟨W1, env1, A1, S1, h1⟩
  cases m with
  | zero => exact h1.elim
  | succ m =>
    unfold whL at h1
    refine tS_then S1 h1 fun d W2 H2 env2 A2 k S2 F2 r2 h2 => ?_
    subst r2
    cases k with
    | false => exact iteF (h2 W2 H2 A2 σ1 S2 (Fr.refl _ _ _))
    | true =>
      refine iteT ⟨fun σ' H' => ∃ W2 env2 A2, SR X.K X.w ρ W2 H' env2 σ' A2 ∧ onS X Wx ρ W2 H' A2 (whL tf b m env2) D, fun σ' H' q => ⟨m, Nat.lt_succ_self m, q⟩, ρ, W2, env2, A2, S2, ?_⟩
      simp only [if_true] at h2
      cases eb : b env2 with
      | bad => rw [eb] at h2; exact h2.elim
      | exc cc d e => rw [eb] at h2; exact h2
      | ok r =>
        obtain ⟨fl, env5⟩ := r
        rw [eb, Out.bind_ok] at h2
        cases fl with
        | nx => exact fun W5 H5 A5 σ5 S5 F5 => ⟨W5, env5, A5, S5, onS_fr h2 F5⟩
        | ct => exact fun W5 H5 A5 σ5 S5 F5 => ⟨W5, env5, A5, S5, onS_fr h2 F5⟩
        | bk => exact h2
        | rt d => exact h2
end

/-! ### comprehensions -/
/-- slots forgotten -/
def wipeE (e : Ev) : List Nat → Ev
  | [] => e
  | v :: vs => (wipeE e vs).set v .no
def wipeA (A : List (List Addr)) : List Nat → List (List Addr)
  | [] => A
  | v :: vs => (wipeA A vs).set v []
/-- .. and back, as they were -/
def backE (e0 e : Ev) : List Nat → Ev
  | [] => e
  | v :: vs => (backE e0 e vs).set v (match e0[v]? with
    | some (.fz d) => .fz d
    | _ => .no)
def cmpL (g : GF) (ts : TF) (el : XF) (vs : List Nat) : List D → Ev → Out (List D × Ev)
  | [], env => .ok ([], env)
  | x :: xs, env => match g x env with
    | none => .bad
    | some e1 => (ts e1).bind fun t => if t.1 = true then (el t.2).bind fun y => (cmpL g ts el vs xs (wipeE y.2 vs)).bind fun r => .ok (y.1 :: r.1, r.2) else cmpL g ts el vs xs (wipeE t.2 vs)
/-- the items of a comprehension -/
def lComp (it : IF) (g : GF) (ts : TF) (el : XF) (vs : List Nat) : AF := fun env => (it env).bind fun r => match cmpL g ts el vs r.1 (wipeE r.2 vs) with
  | .ok (ds, e) => if ds.length ≤ sizeLine then .ok (ds, backE r.2 e vs) else .bad
  | _ => .bad
def xComp (it : IF) (g : GF) (ts : TF) (el : XF) (vs : List Nat) : XF := fun env => (lComp it g ts el vs env).bind fun r => .ok (.list r.1, r.2)

section
variable {K : PySem.W.Frag} {w : World} {ρ : Nat → Addr} {W H : Hp} {env e0 : Ev} {σ σ' : L2.St} {A : List (List Addr)} {vs : List Nat}
theorem SR.wipe (S : SR K w ρ W H env σ A) : ∀ vs : List Nat, SR K w ρ W H (wipeE env vs) (L2.wipe σ vs) (wipeA A vs)
  | [] => S
  | v :: vs => (SR.wipe S vs).setNo v none
theorem ownd_wipe {p : Addr} : ∀ {vs : List Nat}, ownd (wipeA A vs) p → ownd A p
  | [], h => h
  | _ :: _, h => ownd_wipe (ownd_nil h)
theorem wipe_out {σ : L2.St} {j : Nat} : ∀ vs : List Nat, j ∉ vs → (L2.wipe σ vs)[j]? = σ[j]?
  | [], _ => rfl
  | v :: vs, h => by
    unfold L2.wipe
    rw [List.getElem?_set_ne (fun e => h (by rw [e]; exact List.mem_cons_self)), wipe_out vs fun z => h (List.mem_cons_of_mem _ z)]
theorem wipe_in {σ : L2.St} {j : Nat} (hl : j < σ.length) : ∀ vs : List Nat, j ∈ vs → (L2.wipe σ vs)[j]? = some none
  | v :: vs, h => by
    unfold L2.wipe
    by_cases e : v = j
    · rw [e, List.getElem?_set_self (by rw [wipe_length]; exact hl)]
    · rw [List.getElem?_set_ne e]
      exact wipe_in hl vs ((List.mem_cons.mp h).resolve_left fun z => e z.symm)
theorem wipe_agr {us : List Nat} (h : Agr us σ σ') (hv : ∀ j ∈ us, j ∈ vs) : L2.wipe σ' vs = L2.wipe σ vs := by
  refine List.ext_getElem? fun j => ?_
  by_cases hm : j ∈ vs
  · by_cases hl : j < σ.length
    · rw [wipe_in hl vs hm, wipe_in (by rw [h.1]; exact hl) vs hm]
    · rw [List.getElem?_eq_none (by rw [wipe_length, h.1]; omega), List.getElem?_eq_none (by rw [wipe_length]; omega)]
  · rw [wipe_out vs hm, wipe_out vs hm]
    exact h.2 j fun z => hm (hv j z)
theorem wipe_wipe (vs : List Nat) : L2.wipe (L2.wipe σ vs) vs = L2.wipe σ vs := wipe_agr (us := vs) ⟨wipe_length _ _, fun j hj => wipe_out vs hj⟩ fun _ h => h
def backS (σ τ : L2.St) : List Nat → L2.St
  | [] => τ
  | v :: vs => (backS σ τ vs).set v (σ[v]?.getD none)
theorem backS_len {τ : L2.St} : ∀ vs : List Nat, (backS σ τ vs).length = τ.length
  | [] => rfl
  | v :: vs => by unfold backS; rw [List.length_set, backS_len vs]
theorem backS_out {τ : L2.St} {j : Nat} : ∀ vs : List Nat, j ∉ vs → (backS σ τ vs)[j]? = τ[j]?
  | [], _ => rfl
  | v :: vs, h => by
    unfold backS
    rw [List.getElem?_set_ne (fun e => h (by rw [e]; exact List.mem_cons_self)), backS_out vs fun z => h (List.mem_cons_of_mem _ z)]
theorem backS_in {τ : L2.St} {j : Nat} (hl : j < τ.length) (hs : j < σ.length) : ∀ vs : List Nat, j ∈ vs → (backS σ τ vs)[j]? = σ[j]?
  | v :: vs, h => by
    unfold backS
    by_cases e : v = j
    · subst e
      rw [List.getElem?_set_self (by rw [backS_len]; exact hl), List.getElem?_eq_getElem hs]
      rfl
    · rw [List.getElem?_set_ne e]
      exact backS_in hl hs vs ((List.mem_cons.mp h).resolve_left fun z => e z.symm)
theorem backS_eq {τ : L2.St} (hl : τ.length = σ.length) (h : ∀ j, j ∉ vs → τ[j]? = σ[j]?) : backS σ τ vs = σ := by
  refine List.ext_getElem? fun j => ?_
  by_cases hm : j ∈ vs
  · by_cases hj : j < σ.length
    · exact backS_in (by omega) hj vs hm
    · rw [List.getElem?_eq_none (by rw [backS_len]; omega), List.getElem?_eq_none (by omega)]
  · rw [backS_out vs hm]
    exact h j hm
/-- behind a comprehension: the def's own slots again -/
theorem SR.back {W0 H0 : Hp} {A0 : List (List Addr)} (S : SR K w ρ W H env (L2.wipe σ vs) A) (S0 : SR K w ρ W0 H0 e0 σ A0) (e : Same W0 W) : SR K w ρ W H (backE e0 env vs) σ (wipeA A vs) := by
  have go : ∀ us : List Nat, SR K w ρ W H (backE e0 env us) (backS σ (L2.wipe σ vs) us) (wipeA A us) := by
    intro us
    induction us with
    | nil => exact S
    | cons v us ih =>
      unfold backE backS wipeA
      cases q : e0[v]? with
      | none => exact ih.setNo v _
      | some sl =>
        cases sl with
        | no => exact ih.setNo v _
        | ow t c => exact ih.setNo v _
        | sc ns => exact ih.setNo v _
        | fz d =>
          obtain ⟨x, l, h1, h2, h3⟩ := S0.at q
          obtain ⟨_, y, rfl, r⟩ := h3
          rw [h1]
          exact ih.setFz v (Rep.mono e d y r)
  have q := go vs
  rwa [backS_eq (wipe_length σ vs) fun j hj => wipe_out vs hj] at q
end
end DP
set_option Elab.async false
set_option linter.all false
set_option maxRecDepth 100000
/-! DP, part 7: new containers; displays; list comprehensions. -/
namespace DP
open PySem PySem.Spec PyProof.Rows L2

section
variable (K : PySem.W.Frag) (w : World) (mg : Str → Option Value) (Wx : WX)
/-- what is wanted of an outcome that is a new container, nobody's yet -/
def onN (ρ : Nat → Addr) (σ : L2.St) (W H : Hp) (A : List (List Addr)) (o : Out (D × Ev)) (Q : VK) : Prop :=
  match o with
  | .ok (c, env') => ∀ W' H' A' p, SR K w ρ W' H' env' σ A' → Fr W H (ownd A) W' H' (ownd A') → W' p = none → Own K w W' H' c p → ¬ ownd A' p → (ownd A p ∨ H p = none) → Q (.ref p) H'
  | .exc c d env' => ∀ C W' H' A' dx v, mg c = some (.ref C) → SR K w ρ W' H' env' σ A' → Fr W H (ownd A) W' H' (ownd A') → H' dx = some (.xd [("at", v)]) → Rep K w W' d v → Wx (.ref C) (some dx) σ H'
  | .bad => False
end
abbrev tN (X : Cx) (Wx : WX) (f : XF) : TE := fun σ H Q => ∃ ρ W env A, SR X.K X.w ρ W H env σ A ∧ onN X.K X.w X.mg Wx ρ σ W H A (f env) Q
/-- e makes a new container -/
abbrev EN (X : Cx) (Wx : WX) (e : Expr) (f : XF) : Prop := PE X e (tN X Wx f)
/-- a new container, frozen at once -/
theorem Own.freeze {K : PySem.W.Frag} {w : World} {W H : Hp} {c : D} {p : Addr} (h : Own K w W H c p) (e : Same W H) (n : W p = none) :
    ∃ W', Same W W' ∧ Same W' H ∧ Rep K w W' c (.ref p) ∧ (∀ b, b ≠ p → W' b = W b) ∧ W' p = H p := by
  obtain ⟨o, ho, r, sb⟩ := h.lay e n
  exact ⟨upd W p o, fun b u q => by rw [upd_ne (ne_of_none q n)]; exact q, sb, r, fun b hb => upd_ne hb, by rw [upd_same, ho]⟩
theorem EN.ex {X : Cx} {Wx : WX} {e : Expr} {f : XF} (h : EN X Wx e f) : EX X Wx e f := by
  refine PE.wk h ?_
  rintro σ H Q ⟨ρ, W, env, A, S, h⟩
  refine ⟨ρ, W, env, A, S, ?_⟩
  cases ef : f env with
  | bad => rw [ef] at h; exact h.elim
  | exc c d e => rw [ef] at h; exact h
  | ok r =>
    obtain ⟨c, env1⟩ := r
    rw [ef] at h
    intro W1 H1 A1 p S1 F1 n1 o1 n2 n3
    obtain ⟨W2, s1, s2, r2, k2, kp⟩ := o1.freeze S1.sub n1
    refine h W2 H1 A1 _ (S1.keep s1 s2 fun b hb => ⟨rfl, ?_⟩) ⟨F1.ext.trans s1, F1.keep, fun b h1 h2 => ?_, F1.own⟩ r2
    · rw [k2 b fun e => n2 (e ▸ hb)]
      exact (S1.own hb).1
    · by_cases hb : b = p
      · subst hb; exact n3
      · rw [k2 b hb] at h1
        exact F1.new b h1 h2
section
variable (K : PySem.W.Frag) (w : World)
/-- .. as an operation's result -/
def onW (W H : Hp) (o : Option D) (Q : VK) : Prop := match o with
  | some c => ∀ W' H' p, Ex W H W' H' → W' p = none → Own K w W' H' c p → H p = none → Q (.ref p) H'
  | none => False
def tW1 (op : D → Option D) : V → Hp → VK → Prop := fun v H Q => ∃ W x, Same W H ∧ Rep K w W x v ∧ onW K w W H (op x) Q
def tW2 (op : D → D → Option D) : V → V → Hp → VK → Prop := fun v u H Q => ∃ W x y, Same W H ∧ Rep K w W x v ∧ Rep K w W y u ∧ onW K w W H (op x y) Q
def tWn (op : List D → Option D) : List V → Hp → VK → Prop := fun vs H Q => ∃ W xs, Same W H ∧ RepL K w W xs vs ∧ onW K w W H (op xs) Q
end
section
variable {K : PySem.W.Frag} {w : World} {W H : Hp} {Q : VK}
theorem onW.of_onV {o : Option D} (h : onV K w W H o Q) : onW K w W H o Q := by
  cases o with
  | none => exact h
  | some c =>
    intro W1 H1 p e n o1 n3
    obtain ⟨W2, s1, s2, r2, k2, kp⟩ := o1.freeze e.sub n
    refine h W2 H1 _ ⟨e.ext.trans s1, e.keep, s2, fun b h1 h2 => ?_⟩ r2
    by_cases hb : b = p
    · subst hb; exact n3
    · rw [k2 b hb] at h1
      exact e.new b h1 h2
theorem tW1.of {op : D → Option D} {v : V} (h : tV1 K w op v H Q) : tW1 K w op v H Q := by
  obtain ⟨W, x, s, r, h⟩ := h
  exact ⟨W, x, s, r, onW.of_onV h⟩
theorem tW2.of {op : D → D → Option D} {v u : V} (h : tV2 K w op v u H Q) : tW2 K w op v u H Q := by
  obtain ⟨W, x, y, s, r, r', h⟩ := h
  exact ⟨W, x, y, s, r, r', onW.of_onV h⟩
theorem tWn.of {op : List D → Option D} {vs : List V} (h : tVn K w op vs H Q) : tWn K w op vs H Q := by
  obtain ⟨W, x, s, r, h⟩ := h
  exact ⟨W, x, s, r, onW.of_onV h⟩
/-- a new list on top of what stands -/
theorem onW.lst {zs : List D} {vs : List V} {p : Addr} (h : onW K w W H (some (.list zs)) Q) (s : Same W H) (r : RepL K w W zs vs) (n : H p = none) : Q (.ref p) (upd H p (.lst vs)) :=
  h W _ p (Ex.junk s n) (s.free n) ⟨vs, upd_same, r⟩ n
end
section
variable {X : Cx} {Wx : WX} {ρ : Nat → Addr} {σ : L2.St} {W H : Hp} {A : List (List Addr)} {env : Ev} {Q : VK}
theorem onN_fr {W1 H1 : Hp} {A1 : List (List Addr)} {o : Out (D × Ev)} (h : onN X.K X.w X.mg Wx ρ σ W H A o Q) (F : Fr W H (ownd A) W1 H1 (ownd A1)) : onN X.K X.w X.mg Wx ρ σ W1 H1 A1 o Q := by
  cases o with
  | bad => exact h
  | exc c d e => exact fun C W' H' A' dx v g S' F' x r' => h C W' H' A' dx v g S' (F.trans F') x r'
  | ok r =>
    intro W' H' A' p S' F' n o k z
    refine h W' H' A' p S' (F.trans F') n o k ?_
    rcases z with z | z
    · exact F.own p z
    · cases q : H p with
      | none => exact .inr rfl
      | some u =>
        by_cases hp : ownd A p
        · exact .inl hp
        · have := F.keep p u q hp
          rw [z] at this; cases this
/-- a step ahead of a new container -/
theorem tN_then {α β : Type} {R : Hp → α → β → Prop} {f : Ev → Out (α × Ev)} {k : α × Ev → Out (D × Ev)} {Q' : β → Hp → Prop}
    (S : SR X.K X.w ρ W H env σ A) (h : onN X.K X.w X.mg Wx ρ σ W H A ((f env).bind k) Q)
    (n : ∀ d W1 H1 env1 A1 v, SR X.K X.w ρ W1 H1 env1 σ A1 → Fr W H (ownd A) W1 H1 (ownd A1) → R W1 d v → onN X.K X.w X.mg Wx ρ σ W1 H1 A1 (k (d, env1)) Q → Q' v H1) : tG X.K X.w X.mg Wx R f σ H Q' := by
  refine ⟨ρ, W, env, A, S, ?_⟩
  cases e : f env with
  | ok r =>
    rw [e, Out.bind_ok] at h
    obtain ⟨d, env1⟩ := r
    exact fun W1 H1 A1 v S1 F1 r1 => n d W1 H1 env1 A1 v S1 F1 r1 (onN_fr h F1)
  | exc c d e' => rw [e, Out.bind_exc] at h; exact h
  | bad => rw [e, Out.bind_bad] at h; exact h.elim
/-- the operation that makes it -/
theorem onW_of {o : Option D} (S : SR X.K X.w ρ W H env σ A) (h : onN X.K X.w X.mg Wx ρ σ W H A (liftO o env) Q) : onW X.K X.w W H o Q := by
  cases o with
  | none => exact h
  | some c =>
    intro W' H' p e n o1 z
    refine h W' H' A p (S.ex e) (e.fr _) n o1 (fun hp => ?_) (.inr z)
    obtain ⟨_, u, hu⟩ := S.own hp
    rw [z] at hu; cases hu
end

/-! ### displays -/
def xTup (f : AF) : XF := xn (fun ds => if ds.length ≤ sizeLine then some (.tuple ds) else none) f
def xLst (f : AF) : XF := xn (fun ds => if ds.length ≤ sizeLine then some (.list ds) else none) f
section
variable {X : Cx} {Wx : WX} {es : List Expr} {f : AF} {pos : Pos}
theorem ex_tup {k : Nat} (h : EA X Wx es f) : EX X Wx (.Tuple es k pos) (xTup f) := by
  refine PE.wk (pe_tup h) ?_
  rintro σ H Q ⟨ρ, W, env, A, S, h⟩
  refine tG_then S h fun ds W1 H1 env1 A1 vs S1 F1 r1 h1 => ?_
  have h2 := onV_of S1 h1
  dsimp only at h2
  split at h2
  · rename_i c
    exact ⟨by rw [r1.len]; exact c, fun p n => h2.tup S1.sub r1 n⟩
  · exact h2.elim
theorem en_lst (h : EA X Wx es f) : EN X Wx (.List es pos) (xLst f) := by
  refine PE.wk (pe_lst h) ?_
  rintro σ H Q ⟨ρ, W, env, A, S, h⟩
  refine tN_then S h fun ds W1 H1 env1 A1 vs S1 F1 r1 h1 => ?_
  have h2 := onW_of S1 h1
  dsimp only at h2
  split at h2
  · rename_i c
    exact ⟨by rw [r1.len]; exact c, fun p n => h2.lst S1.sub r1 n⟩
  · exact h2.elim
theorem ex_lst (h : EA X Wx es f) : EX X Wx (.List es pos) (xLst f) := (en_lst h).ex
/-- name = a new container -/
def sOwn (i : Nat) (f : XF) : SF := fun env => (f env).bind fun r => .ok (.nx, r.2.set i (.ow none r.1))
theorem es_own {i : Nat} {x : Str} {e : Expr} {p2 : Pos} {f : XF} (hN : X.N.Nodup) (hi : X.N[i]? = some x) (hx : Loc X.env.scope x) (h : EN X Wx e f) (hs : swapsWith e (some (.Name x p2)) pos.line X.env = pure false := by rfl)
    (hf : X.fn x = true ∨ X.env.scope.names.lookup x = some .local := by first | exact .inl rfl | exact .inr rfl | assumption) : ES X Wx (.Assign [.Name x p2] e pos) (sOwn i f) := by
  refine PS.wk (ps_set hN hi hx h hs hf) ?_
  rintro D σ H ⟨ρ, W, env, A, S, h⟩
  refine ⟨ρ, W, env, A, S, ?_⟩
  unfold sOwn at h
  cases e : f env with
  | bad => rw [e] at h; exact h.elim
  | exc c d e' =>
    rw [e] at h
    exact fun C W' H' A' dx v g S' F' x r' => h C W' H' A' σ dx v g S' F' x r'
  | ok r =>
    rw [e] at h
    obtain ⟨c, env1⟩ := r
    intro W1 H1 A1 p S1 F1 n1 o1 n2 n3
    refine h W1 H1 (A1.set i [p]) _ (S1.put i ⟨p, rfl, rfl, n1, o1, fun _ z => nomatch z⟩ fun j l b hj hl hb => ?_) ⟨F1.ext, F1.keep, F1.new, fun b hb => ?_⟩
    · intro hm
      have e : b = p := by simpa using hm
      subst e
      exact n2 ⟨j, l, hl, hb⟩
    · rcases ownd_put hb with z | z
      · have e : b = p := by simpa using z
        subst e
        exact n3
      · exact F1.own b z
end

/-! ### list comprehensions -/
def tTrue : TF := fun env => .ok (true, env)
abbrev EQ (X : Cx) (Wx : WX) (ifs : List Expr) (f : TF) : Prop := PTs X ifs (tT X Wx f)
theorem eq_nil {X : Cx} {Wx : WX} : EQ X Wx [] tTrue := by
  refine ⟨fun pins s σ H Q I q => pts_nil.run pins s σ H Q I ?_⟩
  obtain ⟨ρ, W, env, A, S, h⟩ := q
  exact h W H A true S (Fr.refl _ _ _) rfl
theorem eq_one {X : Cx} {Wx : WX} {c : Expr} {f : TF} (h : ET X Wx c f) : EQ X Wx [c] f := pts_one h

abbrev Wx0 : WX := fun _ _ _ _ => False
/-- a step of which nothing but a value is known to come -/
theorem step0 {α β γ : Type} {K : PySem.W.Frag} {w : World} {mg : Str → Option Value} {Wx : WX} {R : Hp → α → β → Prop} {ρ : Nat → Addr} {σ : L2.St} {W H : Hp} {A : List (List Addr)} {env : Ev} {f : Ev → Out (α × Ev)} {k : α × Ev → Out γ} {r : γ} {Q' : β → Hp → Prop}
    (S : SR K w ρ W H env σ A) (h : (f env).bind k = .ok r)
    (n : ∀ d W1 H1 env1 A1 v, SR K w ρ W1 H1 env1 σ A1 → Fr W H (ownd A) W1 H1 (ownd A1) → R W1 d v → k (d, env1) = .ok r → Q' v H1) : tG K w mg Wx R f σ H Q' := by
  refine ⟨ρ, W, env, A, S, ?_⟩
  cases e : f env with
  | ok q =>
    rw [e, Out.bind_ok] at h
    obtain ⟨d, env1⟩ := q
    exact fun W1 H1 A1 v S1 F1 r1 => n d W1 H1 env1 A1 v S1 F1 r1 h
  | exc c d e' => rw [e] at h; cases h
  | bad => rw [e] at h; cases h
theorem RepL.snoc {K : PySem.W.Frag} {w : World} {W : Hp} {ds : List D} {vs : List V} {d : D} {v : V} (h : RepL K w W ds vs) (r : Rep K w W d v) : RepL K w W (ds ++ [d]) (vs ++ [v]) := h.append (RepL.cons r RepL.nil)
section
variable {X : Cx} {Wx : WX} {it : IF} {g : GF} {ts : TF} {el : XF} {us vs : List Nat} {σ : L2.St} {H : Hp} {Q : VK}
/-- ONE TURN'S END AND ALL: the reading of [elt for target in iter if ..] -/
theorem comp_read (hus : ∀ j ∈ us, j ∈ vs) (h : tN X Wx (xComp it g ts el vs) σ H Q) : tLc (tI X Wx it) (tGt X us g) (tT X Wx0 ts) (tX X Wx0 el) vs σ H Q := by
  obtain ⟨ρ, W, env, A, S, h⟩ := h
  unfold xComp lComp at h
  have hb : ∀ {α β γ : Type} (o : Out α) (f : α → Out β) (k : β → Out γ), (o.bind f).bind k = o.bind fun a => (f a).bind k := by
    intro α β γ o f k; cases o <;> rfl
  rw [hb] at h
  refine tN_then S h fun xs W1 H1 env1 A1 J S1 F1 wk h1 => ?_
  intro L nL
  cases ec : cmpL g ts el vs xs (wipeE env1 vs) with
  | bad => rw [ec] at h1; exact h1.elim
  | exc c d e => rw [ec] at h1; exact h1.elim
  | ok r =>
    obtain ⟨ds, envE⟩ := r
    simp only [ec] at h1
    by_cases hz : ds.length ≤ sizeLine
    · rw [if_pos hz] at h1
      have nW : W1 L = none := S1.sub.free nL
      have oL : ¬ ownd A1 L := fun z => by
        obtain ⟨_, u, hu⟩ := S1.own z
        rw [nL] at hu; cases hu
      have S2 : SR X.K X.w ρ W1 (upd H1 L (.lst [])) env1 σ A1 := S1.ex (Ex.junk S1.sub nL)
      refine ⟨fun i m H => m = xs.length - i ∧ i ≤ xs.length ∧ ∃ W2 env2 A2 done rest acc, SR X.K X.w ρ W2 H env2 (L2.wipe σ vs) A2 ∧ Fr W1 H1 (ownd A1) W2 H (ownd A2) ∧ W2 L = none ∧ ¬ ownd A2 L ∧ H L = some (.lst acc) ∧ RepL X.K X.w W2 done acc ∧
          done ++ rest = ds ∧ cmpL g ts el vs (xs.drop i) env2 = .ok (rest, envE),
        ⟨xs.length, by simp, Nat.zero_le _, W1, _, _, [], ds, [], S2.wipe vs, ((Ex.junk S1.sub nL).fr _).trans (fr_sub fun p h => ownd_wipe h), nW, fun z => oL (ownd_wipe z), upd_same, RepL.nil, rfl, ec⟩, ?_⟩
      rintro i m H2 ⟨rfl, hi, W2, env2, A2, done, rest, acc, S3, F3, n3, o3, e3, r3, eq3, c3⟩
      by_cases hlt : i < xs.length
      · obtain ⟨x, hx⟩ : ∃ x, xs[i]? = some x := ⟨_, List.getElem?_eq_getElem hlt⟩
        have hd : xs.drop i = x :: xs.drop (i + 1) := by
          have e1 := List.drop_eq_getElem_cons hlt
          rw [List.getElem?_eq_getElem hlt] at hx
          cases hx
          exact e1
        rw [hd] at c3
        unfold cmpL at c3
        refine .inr ⟨wk.go i H2 W2 F3.ext S3.sub hlt, fun H => i + 1 ≤ xs.length ∧ ∃ W2 env2 A2 done rest acc, SR X.K X.w ρ W2 H env2 (L2.wipe σ vs) A2 ∧ Fr W1 H1 (ownd A1) W2 H (ownd A2) ∧ W2 L = none ∧ ¬ ownd A2 L ∧ H L = some (.lst acc) ∧ RepL X.K X.w W2 done acc ∧
            done ++ rest = ds ∧ cmpL g ts el vs (xs.drop (i + 1)) env2 = .ok (rest, envE), fun H' ⟨q1, q2⟩ => ⟨xs.length - (i + 1), by omega, rfl, q1, q2⟩, fun v H4 y => ?_⟩
        obtain ⟨W4, e4, r4⟩ := wk.yld i H2 W2 v H4 x F3.ext S3.sub hx y
        have S4 := S3.ex e4
        have L4 : H4 L = some (.lst acc) := e4.keep _ _ e3
        have n4 : W4 L = none := by
          cases z : W4 L with
          | none => rfl
          | some u =>
            have q := e4.new L (by rw [z]; exact fun z => nomatch z) n3
            rw [e3] at q; cases q
        cases eg : g x env2 with
        | none => rw [eg] at c3; cases c3
        | some env5 =>
          rw [eg] at c3
          simp only at c3
          refine ⟨ρ, W4, env2, A2, x, env5, S4, r4, eg, fun σ5 A5 S5 p5 a5 => ⟨?_, ?_⟩⟩
          · rw [wipe_agr a5 hus, wipe_wipe]
          · have ws : L2.wipe σ5 vs = L2.wipe σ vs := by rw [wipe_agr a5 hus, wipe_wipe]
            have F5 : Fr W1 H1 (ownd A1) W4 H4 (ownd A5) := F3.trans ((e4.fr _).trans (fr_sub p5))
            have l5 : ¬ ownd A5 L := fun z => o3 (p5 L z)
            -- what a step that is not L's owner leaves of L
            have stay : ∀ {W' H' : Hp} {A' : List (List Addr)}, Fr W4 H4 (ownd A5) W' H' (ownd A') → H' L = some (.lst acc) ∧ W' L = none ∧ ¬ ownd A' L := fun {W' H' A'} F => by
              refine ⟨F.keep L _ L4 l5, ?_, fun z => ?_⟩
              · cases z : W' L with
                | none => rfl
                | some u =>
                  rcases F.new L (by rw [z]; exact fun z => nomatch z) n4 with q | q
                  · exact absurd q l5
                  · rw [L4] at q; cases q
              · rcases F.own L z with q | q
                · exact l5 q
                · rw [L4] at q; cases q
            refine step0 S5 c3 fun b W6 H6 env6 A6 k S6 F6 r6 c6 => ?_
            subst r6
            cases k with
            | false =>
              simp only [Bool.false_eq_true, if_false] at c6
              obtain ⟨q1, q2, q3⟩ := stay F6
              have S7 := S6.wipe vs
              rw [ws] at S7
              exact iteF ⟨hlt, W6, _, _, done, rest, acc, S7, F5.trans (F6.trans (fr_sub fun p h => ownd_wipe h)), q2, fun z => q3 (ownd_wipe z), q1, RepL.mono (e4.ext.trans F6.ext) _ _ r3, eq3, c6⟩
            | true =>
              simp only [if_true] at c6
              refine iteT (step0 S6 c6 fun d W7 H7 env7 A7 v7 S7 F7 r7 c7 => ?_)
              have F67 := F6.trans F7
              obtain ⟨q1, q2, q3⟩ := stay F67
              cases ed : cmpL g ts el vs (xs.drop (i + 1)) (wipeE env7 vs) with
              | bad => rw [ed] at c7; cases c7
              | exc c d' e => rw [ed] at c7; cases c7
              | ok rr =>
                obtain ⟨rest', envE'⟩ := rr
                rw [ed, Out.bind_ok] at c7
                have c8 : d :: rest' = rest ∧ envE' = envE := by
                  injection c7 with c7
                  injection c7 with c7 c9
                  exact ⟨c7, c9⟩
                obtain ⟨c8, c9⟩ := c8
                subst c9
                have hlen : acc.length < sizeLine := by
                  rw [r3.len]
                  have e1 := congrArg List.length eq3
                  rw [List.length_append, ← c8, List.length_cons] at e1
                  omega
                have S8 : SR X.K X.w ρ W7 (upd H7 L (.lst (acc ++ [v7]))) env7 σ5 A7 := by
                  refine S7.keep (Same.refl _) (fun b u q => ?_) fun b hb => ⟨upd_ne fun e => q3 (e ▸ hb), (S7.own hb).1⟩
                  rw [upd_ne (fun e => by rw [e, q2] at q; cases q)]
                  exact S7.sub b u q
                have S9 := S8.wipe vs
                rw [ws] at S9
                refine ⟨acc, q1, hlen, hlt, W7, _, _, done ++ [d], rest', acc ++ [v7], S9, ?_, q2, fun z => q3 (ownd_wipe z), upd_same, RepL.snoc (RepL.mono (e4.ext.trans F67.ext) _ _ r3) r7, by rw [List.append_assoc]; exact (by rw [← eq3, ← c8]; rfl), ed⟩
                have F8 := F5.trans F67
                refine ⟨F8.ext, fun b u hb hp => ?_, F8.new, fun b hb => F8.own b (ownd_wipe hb)⟩
                have e : b ≠ L := fun e => by rw [e, nL] at hb; cases hb
                rw [upd_ne e]
                exact F8.keep b u hb hp
      · have ei : i = xs.length := by omega
        subst ei
        refine .inl ⟨wk.stop _ H2 W2 F3.ext S3.sub (Nat.le_refl _), ?_⟩
        rw [List.drop_length] at c3
        unfold cmpL at c3
        have c4 : rest = [] ∧ env2 = envE := by
          injection c3 with c3
          injection c3 with c3 c5
          exact ⟨c3.symm, c5⟩
        obtain ⟨rfl, rfl⟩ := c4
        rw [List.append_nil] at eq3
        subst eq3
        exact h1 W2 H2 _ L (SR.back S3 S1 F3.ext) (F3.trans (fr_sub fun p h => ownd_wipe h)) n3 ⟨acc, e3, r3⟩ (fun z => o3 (ownd_wipe z)) (.inr nL)
    · rw [if_neg hz] at h1
      exact h1.elim
theorem tX_tN {f : XF} (h : tX X Wx f σ H Q) : tN X Wx f σ H Q := by
  obtain ⟨ρ, W, env, A, S, h⟩ := h
  refine ⟨ρ, W, env, A, S, ?_⟩
  cases ef : f env with
  | bad => rw [ef] at h; exact h.elim
  | exc c d e => rw [ef] at h; exact h
  | ok r =>
    obtain ⟨c, env1⟩ := r
    rw [ef] at h
    intro W1 H1 A1 p S1 F1 n1 o1 n2 n3
    obtain ⟨W2, s1, s2, r2, k2, kp⟩ := o1.freeze S1.sub n1
    refine h W2 H1 A1 _ (S1.keep s1 s2 fun b hb => ⟨rfl, ?_⟩) ⟨F1.ext.trans s1, F1.keep, fun b h1 h2 => ?_, F1.own⟩ r2
    · rw [k2 b fun e => n2 (e ▸ hb)]
      exact (S1.own hb).1
    · by_cases hb : b = p
      · subst hb; exact n3
      · rw [k2 b hb] at h1
        exact F1.new b h1 h2
theorem set_read {i : Nat} {f : XF} {D : Ends} (h : tS X Wx (sSet i f) D σ H) : tX X Wx f σ H fun x H1 => gName i x σ H1 D.nx := by
  obtain ⟨ρ, W, env, A, S, h⟩ := h
  exact tS_then S h fun d W1 H1 env1 A1 v S1 F1 r1 h1 => h1 W1 H1 _ _ (S1.setFz i r1) (fr_nil i)
theorem own_read {i : Nat} {f : XF} {D : Ends} (h : tS X Wx (sOwn i f) D σ H) : tN X Wx f σ H fun x H1 => gName i x σ H1 D.nx := by
  obtain ⟨ρ, W, env, A, S, h⟩ := h
  refine ⟨ρ, W, env, A, S, ?_⟩
  unfold sOwn at h
  cases e : f env with
  | bad => rw [e] at h; exact h.elim
  | exc c d e' =>
    rw [e] at h
    exact fun C W' H' A' dx v g S' F' x r' => h C W' H' A' σ dx v g S' F' x r'
  | ok r =>
    rw [e] at h
    obtain ⟨c, env1⟩ := r
    intro W1 H1 A1 p S1 F1 n1 o1 n2 n3
    refine h W1 H1 (A1.set i [p]) _ (S1.put i ⟨p, rfl, rfl, n1, o1, fun _ z => nomatch z⟩ fun j l b hj hl hb => ?_) ⟨F1.ext, F1.keep, F1.new, fun b hb => ?_⟩
    · intro hm
      have e : b = p := by simpa using hm
      subst e
      exact n2 ⟨j, l, hl, hb⟩
    · rcases ownd_put hb with z | z
      · have e : b = p := by simpa using z
        subst e
        exact n3
      · exact F1.own b z
end
section
variable {X : Cx} {Wx : WX} {it it1 : IF} {g g1 : GF} {ts ts1 : TF} {el : XF} {us us1 vs1 : List Nat} {elt tg iter tg1 iter1 : Expr} {ifs ifs1 : List Expr} {scope : Scope} {own : List (Str × Nat)} {pos : Pos}
theorem en_comp (hc : X.calm = true) (hN : X.N.Nodup) (hi : EI X Wx tg iter it) (ok : BlkOk X.N X.env.scope scope own) (hus : us ⊆ own.map (·.2))
    (hg : ∀ (s : Shared) (H : Hp) (C : Addr) (cl : List (Str × Addr)) (fp : List Addr), EG (X.blk s H scope (compEnvC scope cl C X.env) fp) tg us g) (ht : ∀ (s : Shared) (H : Hp) (C : Addr) (cl : List (Str × Addr)) (fp : List Addr), EQ (X.blk s H scope (compEnvC scope cl C X.env) fp) Wx0 ifs ts)
    (he : ∀ (s : Shared) (H : Hp) (C : Addr) (cl : List (Str × Addr)) (fp : List Addr), EX (X.blk s H scope (compEnvC scope cl C X.env) fp) Wx0 elt el) (hs : ∀ x, foldedSetIterable iter X.env x = pure x := by intro _; rfl) :
    EN X Wx (.ListComp elt [⟨tg, iter, ifs, 0⟩] scope pos) (xComp it g ts el (own.map (·.2))) :=
  PE.wk (pe_lc hc hN hi ok hg ht he hs) fun σ H Q h => comp_read (fun j hj => hus hj) h
theorem es_setComp {i : Nat} {y : Str} {py spos : Pos} (hc : X.calm = true) (hN : X.N.Nodup) (hy : X.N[i]? = some y) (hyl : X.env.scope.names.lookup y = some .local)
    (hsw : swapsWith (.ListComp elt [⟨tg, iter, ifs, 0⟩] scope pos) (some (.Name y py)) spos.line X.env = pure true) (hi : EI X Wx tg iter it) (ok : BlkOk X.N X.env.scope scope own) (hus : us ⊆ own.map (·.2))
    (hg : ∀ (s : Shared) (H : Hp) (C : Addr) (cl : List (Str × Addr)) (fp : List Addr), EG (X.blk s H scope (compEnvC scope cl C X.env) fp) tg us g) (ht : ∀ (s : Shared) (H : Hp) (C : Addr) (cl : List (Str × Addr)) (fp : List Addr), EQ (X.blk s H scope (compEnvC scope cl C X.env) fp) Wx0 ifs ts)
    (he : ∀ (s : Shared) (H : Hp) (C : Addr) (cl : List (Str × Addr)) (fp : List Addr), EX (X.blk s H scope (compEnvC scope cl C X.env) fp) Wx0 elt el) (hs : ∀ x, foldedSetIterable iter X.env x = pure x := by intro _; rfl) :
    ES X Wx (.Assign [.Name y py] (.ListComp elt [⟨tg, iter, ifs, 0⟩] scope pos) spos) (sSet i (xComp it g ts el (own.map (·.2)))) :=
  PS.wk (ps_setLc hc hN hy hyl hsw hi ok hg ht he hs) fun D σ H h => comp_read (fun j hj => hus hj) (tX_tN (set_read h))
theorem es_ownComp {i : Nat} {y : Str} {py spos : Pos} (hc : X.calm = true) (hN : X.N.Nodup) (hy : X.N[i]? = some y) (hyl : X.env.scope.names.lookup y = some .local)
    (hsw : swapsWith (.ListComp elt [⟨tg, iter, ifs, 0⟩] scope pos) (some (.Name y py)) spos.line X.env = pure true) (hi : EI X Wx tg iter it) (ok : BlkOk X.N X.env.scope scope own) (hus : us ⊆ own.map (·.2))
    (hg : ∀ (s : Shared) (H : Hp) (C : Addr) (cl : List (Str × Addr)) (fp : List Addr), EG (X.blk s H scope (compEnvC scope cl C X.env) fp) tg us g) (ht : ∀ (s : Shared) (H : Hp) (C : Addr) (cl : List (Str × Addr)) (fp : List Addr), EQ (X.blk s H scope (compEnvC scope cl C X.env) fp) Wx0 ifs ts)
    (he : ∀ (s : Shared) (H : Hp) (C : Addr) (cl : List (Str × Addr)) (fp : List Addr), EX (X.blk s H scope (compEnvC scope cl C X.env) fp) Wx0 elt el) (hs : ∀ x, foldedSetIterable iter X.env x = pure x := by intro _; rfl) :
    ES X Wx (.Assign [.Name y py] (.ListComp elt [⟨tg, iter, ifs, 0⟩] scope pos) spos) (sOwn i (xComp it g ts el (own.map (·.2)))) :=
  PS.wk (ps_setLc hc hN hy hyl hsw hi ok hg ht he hs) fun D σ H h => comp_read (fun j hj => hus hj) (own_read h)

/-! ### two clauses -/
def cmp2L (g : GF) (ts : TF) (it1 : IF) (g1 : GF) (ts1 : TF) (el : XF) (vs vs1 : List Nat) : List D → Ev → Out (List D × Ev)
  | [], env => .ok ([], env)
  | x :: xs, env => match g x env with
    | none => .bad
    | some e1 => (ts e1).bind fun t => if t.1 = true then (it1 t.2).bind fun i => (cmpL g1 ts1 el vs1 i.1 (wipeE i.2 vs1)).bind fun q => (cmp2L g ts it1 g1 ts1 el vs vs1 xs (wipeE q.2 vs)).bind fun r => .ok (q.1 ++ r.1, r.2)
      else cmp2L g ts it1 g1 ts1 el vs vs1 xs (wipeE t.2 vs)
def lComp2 (it : IF) (g : GF) (ts : TF) (it1 : IF) (g1 : GF) (ts1 : TF) (el : XF) (vs vs1 : List Nat) : AF := fun env => (it env).bind fun r => match cmp2L g ts it1 g1 ts1 el vs vs1 r.1 (wipeE r.2 vs) with
  | .ok (ds, e) => if ds.length ≤ sizeLine then .ok (ds, backE r.2 e vs) else .bad
  | _ => .bad
def xComp2 (it : IF) (g : GF) (ts : TF) (it1 : IF) (g1 : GF) (ts1 : TF) (el : XF) (vs vs1 : List Nat) : XF := fun env => (lComp2 it g ts it1 g1 ts1 el vs vs1 env).bind fun r => .ok (.list r.1, r.2)
theorem comp2_read {vs : List Nat} {σ : L2.St} {H : Hp} {Q : VK} (hus : ∀ j ∈ us, j ∈ vs) (hus1 : ∀ j ∈ us1, j ∈ vs1) (hv : ∀ j ∈ vs1, j ∈ vs) (h : tN X Wx (xComp2 it g ts it1 g1 ts1 el vs vs1) σ H Q) :
    tLc2 (tI X Wx it) (tGt X us g) (tT X Wx0 ts) (tI X Wx0 it1) (tGt X us1 g1) (tT X Wx0 ts1) (tX X Wx0 el) vs vs1 σ H Q := by
  obtain ⟨ρ, W, env, A, S, h⟩ := h
  unfold xComp2 lComp2 at h
  have hb : ∀ {α β γ : Type} (o : Out α) (f : α → Out β) (k : β → Out γ), (o.bind f).bind k = o.bind fun a => (f a).bind k := by
    intro α β γ o f k; cases o <;> rfl
  rw [hb] at h
  refine tN_then S h fun xs W1 H1 env1 A1 J S1 F1 wk h1 => ?_
  intro L nL
  cases ec : cmp2L g ts it1 g1 ts1 el vs vs1 xs (wipeE env1 vs) with
  | bad => rw [ec] at h1; exact h1.elim
  | exc c d e => rw [ec] at h1; exact h1.elim
  | ok r =>
    obtain ⟨ds, envE⟩ := r
    simp only [ec] at h1
    by_cases hz : ds.length ≤ sizeLine
    · rw [if_pos hz] at h1
      have nW : W1 L = none := S1.sub.free nL
      have oL : ¬ ownd A1 L := fun z => by
        obtain ⟨_, u, hu⟩ := S1.own z
        rw [nL] at hu; cases hu
      have S2 : SR X.K X.w ρ W1 (upd H1 L (.lst [])) env1 σ A1 := S1.ex (Ex.junk S1.sub nL)
      -- the outer word
      let Wd : Nat → Hp → Prop := fun i H => i ≤ xs.length ∧ ∃ W2 env2 A2 done rest acc, SR X.K X.w ρ W2 H env2 (L2.wipe σ vs) A2 ∧ Fr W1 H1 (ownd A1) W2 H (ownd A2) ∧ W2 L = none ∧ ¬ ownd A2 L ∧ H L = some (.lst acc) ∧ RepL X.K X.w W2 done acc ∧
          done ++ rest = ds ∧ cmp2L g ts it1 g1 ts1 el vs vs1 (xs.drop i) env2 = .ok (rest, envE)
      refine ⟨fun i m H => m = xs.length - i ∧ Wd i H,
        ⟨xs.length, by simp, Nat.zero_le _, W1, _, _, [], ds, [], S2.wipe vs, ((Ex.junk S1.sub nL).fr _).trans (fr_sub fun p h => ownd_wipe h), nW, fun z => oL (ownd_wipe z), upd_same, RepL.nil, rfl, ec⟩, ?_⟩
      rintro i m H2 ⟨rfl, hi, W2, env2, A2, done, rest, acc, S3, F3, n3, o3, e3, r3, eq3, c3⟩
      by_cases hlt : i < xs.length
      · obtain ⟨x, hx⟩ : ∃ x, xs[i]? = some x := ⟨_, List.getElem?_eq_getElem hlt⟩
        have hd : xs.drop i = x :: xs.drop (i + 1) := by
          have e1 := List.drop_eq_getElem_cons hlt
          rw [List.getElem?_eq_getElem hlt] at hx
          cases hx
          exact e1
        rw [hd] at c3
        unfold cmp2L at c3
        refine .inr ⟨wk.go i H2 W2 F3.ext S3.sub hlt, Wd (i + 1), fun H' q => ⟨xs.length - (i + 1), by omega, rfl, q⟩, fun v H4 y => ?_⟩
        obtain ⟨W4, e4, r4⟩ := wk.yld i H2 W2 v H4 x F3.ext S3.sub hx y
        have S4 := S3.ex e4
        have L4 : H4 L = some (.lst acc) := e4.keep _ _ e3
        have n4 : W4 L = none := by
          cases z : W4 L with
          | none => rfl
          | some u =>
            have q := e4.new L (by rw [z]; exact fun z => nomatch z) n3
            rw [e3] at q; cases q
        cases eg : g x env2 with
        | none => rw [eg] at c3; cases c3
        | some env5 =>
          rw [eg] at c3
          simp only at c3
          refine ⟨ρ, W4, env2, A2, x, env5, S4, r4, eg, fun σ5 A5 S5 p5 a5 => ⟨?_, ?_⟩⟩
          · rw [wipe_agr a5 hus, wipe_wipe]
          · have ws : L2.wipe σ5 vs = L2.wipe σ vs := by rw [wipe_agr a5 hus, wipe_wipe]
            have F5 : Fr W1 H1 (ownd A1) W4 H4 (ownd A5) := F3.trans ((e4.fr _).trans (fr_sub p5))
            have l5 : ¬ ownd A5 L := fun z => o3 (p5 L z)
            have stay : ∀ {W0 H0 W' H' : Hp} {A0 A' : List (List Addr)} {ac : List V}, H0 L = some (.lst ac) → W0 L = none → ¬ ownd A0 L → Fr W0 H0 (ownd A0) W' H' (ownd A') → H' L = some (.lst ac) ∧ W' L = none ∧ ¬ ownd A' L := fun {W0 H0 W' H' A0 A' ac} hL hW ho F => by
              refine ⟨F.keep L _ hL ho, ?_, fun z => ?_⟩
              · cases z : W' L with
                | none => rfl
                | some u =>
                  rcases F.new L (by rw [z]; exact fun z => nomatch z) hW with q | q
                  · exact absurd q ho
                  · rw [hL] at q; cases q
              · rcases F.own L z with q | q
                · exact ho q
                · rw [hL] at q; cases q
            refine step0 S5 c3 fun b W6 H6 env6 A6 k S6 F6 r6 c6 => ?_
            subst r6
            cases k with
            | false =>
              simp only [Bool.false_eq_true, if_false] at c6
              obtain ⟨q1, q2, q3⟩ := stay L4 n4 l5 F6
              have S7 := S6.wipe vs
              rw [ws] at S7
              exact iteF ⟨hlt, W6, _, _, done, rest, acc, S7, F5.trans (F6.trans (fr_sub fun p h => ownd_wipe h)), q2, fun z => q3 (ownd_wipe z), q1, RepL.mono (e4.ext.trans F6.ext) _ _ r3, eq3, c6⟩
            | true =>
              simp only [if_true] at c6
              refine iteT (step0 S6 c6 fun ys W7 H7 env7 A7 J1 S7 F7 wk7 c7 => ?_)
              have F67 := F6.trans F7
              obtain ⟨q1, q2, q3⟩ := stay L4 n4 l5 F67
              cases ei : cmpL g1 ts1 el vs1 ys (wipeE env7 vs1) with
              | bad => rw [ei] at c7; cases c7
              | exc c d' e => rw [ei] at c7; cases c7
              | ok rr =>
                obtain ⟨dsI, envI⟩ := rr
                rw [ei, Out.bind_ok] at c7
                cases ed : cmp2L g ts it1 g1 ts1 el vs vs1 (xs.drop (i + 1)) (wipeE envI vs) with
                | bad => rw [ed] at c7; cases c7
                | exc c d' e => rw [ed] at c7; cases c7
                | ok rr =>
                  obtain ⟨rest', envE'⟩ := rr
                  rw [ed, Out.bind_ok] at c7
                  have c8 : dsI ++ rest' = rest ∧ envE' = envE := by
                    injection c7 with c7
                    injection c7 with c7 c9
                    exact ⟨c7, c9⟩
                  obtain ⟨c8, c9⟩ := c8
                  subst c9
                  have r7 : RepL X.K X.w W7 done acc := RepL.mono (e4.ext.trans F67.ext) _ _ r3
                  have F57 := F5.trans F67
                  refine ⟨fun j k H => k = ys.length - j ∧ j ≤ ys.length ∧ ∃ W8 env8 A8 dn rs ac, SR X.K X.w ρ W8 H env8 (L2.wipe σ5 vs1) A8 ∧ Fr W1 H1 (ownd A1) W8 H (ownd A8) ∧ Same W7 W8 ∧ W8 L = none ∧ ¬ ownd A8 L ∧ H L = some (.lst (acc ++ ac)) ∧ RepL X.K X.w W8 (done ++ dn) (acc ++ ac) ∧
                      dn ++ rs = dsI ∧ cmpL g1 ts1 el vs1 (ys.drop j) env8 = .ok (rs, envI),
                    ⟨ys.length, by simp, Nat.zero_le _, W7, _, _, [], dsI, [], S7.wipe vs1, F57.trans (fr_sub fun p h => ownd_wipe h), Same.refl _, q2, fun z => q3 (ownd_wipe z), by rw [List.append_nil]; exact q1, by rw [List.append_nil, List.append_nil]; exact r7, rfl, ei⟩, ?_⟩
                  rintro j k H8 ⟨rfl, hj, W8, env8, A8, dn, rs, ac, S8, F8, s8, n8, o8, e8, r8, eq8, c8'⟩
                  by_cases hlt1 : j < ys.length
                  · obtain ⟨x1, hx1⟩ : ∃ x, ys[j]? = some x := ⟨_, List.getElem?_eq_getElem hlt1⟩
                    have hd1 : ys.drop j = x1 :: ys.drop (j + 1) := by
                      have e1 := List.drop_eq_getElem_cons hlt1
                      rw [List.getElem?_eq_getElem hlt1] at hx1
                      cases hx1
                      exact e1
                    rw [hd1] at c8'
                    unfold cmpL at c8'
                    refine .inr ⟨wk7.go j H8 W8 s8 S8.sub hlt1, fun H => j + 1 ≤ ys.length ∧ ∃ W8 env8 A8 dn rs ac, SR X.K X.w ρ W8 H env8 (L2.wipe σ5 vs1) A8 ∧ Fr W1 H1 (ownd A1) W8 H (ownd A8) ∧ Same W7 W8 ∧ W8 L = none ∧ ¬ ownd A8 L ∧ H L = some (.lst (acc ++ ac)) ∧ RepL X.K X.w W8 (done ++ dn) (acc ++ ac) ∧
                        dn ++ rs = dsI ∧ cmpL g1 ts1 el vs1 (ys.drop (j + 1)) env8 = .ok (rs, envI), fun H' ⟨u1, u2⟩ => ⟨ys.length - (j + 1), by omega, rfl, u1, u2⟩, fun v1 H9 y1 => ?_⟩
                    obtain ⟨W9, e9, r9⟩ := wk7.yld j H8 W8 v1 H9 x1 s8 S8.sub hx1 y1
                    have S9 := S8.ex e9
                    have L9 : H9 L = some (.lst (acc ++ ac)) := e9.keep _ _ e8
                    have n9 : W9 L = none := by
                      cases z : W9 L with
                      | none => rfl
                      | some u =>
                        have q := e9.new L (by rw [z]; exact fun z => nomatch z) n8
                        rw [e8] at q; cases q
                    cases eg1 : g1 x1 env8 with
                    | none => rw [eg1] at c8'; cases c8'
                    | some env10 =>
                      rw [eg1] at c8'
                      simp only at c8'
                      refine ⟨ρ, W9, env8, A8, x1, env10, S9, r9, eg1, fun σ10 A10 S10 p10 a10 => ⟨?_, ?_⟩⟩
                      · rw [wipe_agr a10 hus1, wipe_wipe]
                      · have ws1 : L2.wipe σ10 vs1 = L2.wipe σ5 vs1 := by rw [wipe_agr a10 hus1, wipe_wipe]
                        have F10 : Fr W1 H1 (ownd A1) W9 H9 (ownd A10) := F8.trans ((e9.fr _).trans (fr_sub p10))
                        have l10 : ¬ ownd A10 L := fun z => o8 (p10 L z)
                        refine step0 S10 c8' fun b W11 H11 env11 A11 k S11 F11 r11 c11 => ?_
                        subst r11
                        cases k with
                        | false =>
                          simp only [Bool.false_eq_true, if_false] at c11
                          obtain ⟨z1, z2, z3⟩ := stay L9 n9 l10 F11
                          have S12 := S11.wipe vs1
                          rw [ws1] at S12
                          exact iteF ⟨hlt1, W11, _, _, dn, rs, ac, S12, F10.trans (F11.trans (fr_sub fun p h => ownd_wipe h)), s8.trans (e9.ext.trans F11.ext), z2, fun z => z3 (ownd_wipe z), z1, RepL.mono (e9.ext.trans F11.ext) _ _ r8, eq8, c11⟩
                        | true =>
                          simp only [if_true] at c11
                          refine iteT (step0 S11 c11 fun d W12 H12 env12 A12 v12 S12 F12 r12 c12 => ?_)
                          have F112 := F11.trans F12
                          obtain ⟨z1, z2, z3⟩ := stay L9 n9 l10 F112
                          cases ed1 : cmpL g1 ts1 el vs1 (ys.drop (j + 1)) (wipeE env12 vs1) with
                          | bad => rw [ed1] at c12; cases c12
                          | exc c d' e => rw [ed1] at c12; cases c12
                          | ok rr =>
                            obtain ⟨rs', envI'⟩ := rr
                            rw [ed1, Out.bind_ok] at c12
                            have c13 : d :: rs' = rs ∧ envI' = envI := by
                              injection c12 with c12
                              injection c12 with c12 c14
                              exact ⟨c12, c14⟩
                            obtain ⟨c13, c14⟩ := c13
                            subst c14
                            have r13 : RepL X.K X.w W12 (done ++ dn) (acc ++ ac) := RepL.mono (e9.ext.trans F112.ext) _ _ r8
                            have hlen : (acc ++ ac).length < sizeLine := by
                              rw [r13.len]
                              have e1 := congrArg List.length eq3
                              rw [List.length_append, ← c8, List.length_append, ← eq8, List.length_append, ← c13, List.length_cons] at e1
                              rw [List.length_append]
                              omega
                            have S13 : SR X.K X.w ρ W12 (upd H12 L (.lst (acc ++ ac ++ [v12]))) env12 σ10 A12 := by
                              refine S12.keep (Same.refl _) (fun b u q => ?_) fun b hb => ⟨upd_ne fun e => z3 (e ▸ hb), (S12.own hb).1⟩
                              rw [upd_ne (fun e => by rw [e, z2] at q; cases q)]
                              exact S12.sub b u q
                            have S14 := S13.wipe vs1
                            rw [ws1] at S14
                            refine ⟨acc ++ ac, z1, hlen, hlt1, W12, _, _, dn ++ [d], rs', ac ++ [v12], S14, ?_, s8.trans (e9.ext.trans F112.ext), z2, fun z => z3 (ownd_wipe z), by rw [← List.append_assoc]; exact upd_same, by rw [← List.append_assoc, ← List.append_assoc]; exact RepL.snoc r13 r12, by rw [List.append_assoc]; exact (by rw [← eq8, ← c13]; rfl), ed1⟩
                            have F13 := F10.trans F112
                            refine ⟨F13.ext, fun b u hb hp => ?_, F13.new, fun b hb => F13.own b (ownd_wipe hb)⟩
                            have e : b ≠ L := fun e => by rw [e, nL] at hb; cases hb
                            rw [upd_ne e]
                            exact F13.keep b u hb hp
                  · have ej : j = ys.length := by omega
                    subst ej
                    refine .inl ⟨wk7.stop _ H8 W8 s8 S8.sub (Nat.le_refl _), ?_⟩
                    rw [List.drop_length] at c8'
                    unfold cmpL at c8'
                    have c9 : rs = [] ∧ env8 = envI := by
                      injection c8' with c3
                      injection c3 with c3 c5
                      exact ⟨c3.symm, c5⟩
                    obtain ⟨rfl, rfl⟩ := c9
                    rw [List.append_nil] at eq8
                    subst eq8
                    have S9 := S8.wipe vs
                    have ww : L2.wipe (L2.wipe σ5 vs1) vs = L2.wipe σ vs := by
                      rw [wipe_agr (us := vs1) (σ := σ5) ⟨wipe_length _ _, fun j hj => wipe_out vs1 hj⟩ hv, ws]
                    rw [ww] at S9
                    exact ⟨hlt, W8, _, _, done ++ dn, rest', acc ++ ac, S9, F8.trans (fr_sub fun p h => ownd_wipe h), n8, fun z => o8 (ownd_wipe z), e8, r8, by rw [List.append_assoc, c8]; exact eq3, ed⟩
      · have ei : i = xs.length := by omega
        subst ei
        refine .inl ⟨wk.stop _ H2 W2 F3.ext S3.sub (Nat.le_refl _), ?_⟩
        rw [List.drop_length] at c3
        unfold cmp2L at c3
        have c4 : rest = [] ∧ env2 = envE := by
          injection c3 with c3
          injection c3 with c3 c5
          exact ⟨c3.symm, c5⟩
        obtain ⟨rfl, rfl⟩ := c4
        rw [List.append_nil] at eq3
        subst eq3
        exact h1 W2 H2 _ L (SR.back S3 S1 F3.ext) (F3.trans (fr_sub fun p h => ownd_wipe h)) n3 ⟨acc, e3, r3⟩ (fun z => o3 (ownd_wipe z)) (.inr nL)
    · rw [if_neg hz] at h1
      exact h1.elim
theorem en_comp2 (hc : X.calm = true) (hN : X.N.Nodup) (hi : EI X Wx tg iter it) (ok : BlkOk X.N X.env.scope scope own) (hv : ∀ j ∈ vs1, j ∈ own.map (·.2)) (hus : us ⊆ own.map (·.2)) (hus1 : us1 ⊆ vs1)
    (hg : ∀ (s : Shared) (H : Hp) (C : Addr) (cl : List (Str × Addr)) (fp : List Addr), EG (X.blk s H scope (compEnvC scope cl C X.env) fp) tg us g) (ht : ∀ (s : Shared) (H : Hp) (C : Addr) (cl : List (Str × Addr)) (fp : List Addr), EQ (X.blk s H scope (compEnvC scope cl C X.env) fp) Wx0 ifs ts)
    (hi1 : ∀ (s : Shared) (H : Hp) (C : Addr) (cl : List (Str × Addr)) (fp : List Addr), EI (X.blk s H scope (compEnvC scope cl C X.env) fp) Wx0 tg1 iter1 it1)
    (hg1 : ∀ (s : Shared) (H : Hp) (C : Addr) (cl : List (Str × Addr)) (fp : List Addr), EG (X.blk s H scope (compEnvC scope cl C X.env) fp) tg1 us1 g1) (ht1 : ∀ (s : Shared) (H : Hp) (C : Addr) (cl : List (Str × Addr)) (fp : List Addr), EQ (X.blk s H scope (compEnvC scope cl C X.env) fp) Wx0 ifs1 ts1)
    (he : ∀ (s : Shared) (H : Hp) (C : Addr) (cl : List (Str × Addr)) (fp : List Addr), EX (X.blk s H scope (compEnvC scope cl C X.env) fp) Wx0 elt el) (hs : ∀ x, foldedSetIterable iter X.env x = pure x := by intro _; rfl) (hs1 : ∀ env x, foldedSetIterable iter1 env x = pure x := by intro _ _; rfl) :
    EN X Wx (.ListComp elt [⟨tg, iter, ifs, 0⟩, ⟨tg1, iter1, ifs1, 0⟩] scope pos) (xComp2 it g ts it1 g1 ts1 el (own.map (·.2)) vs1) :=
  PE.wk (pe_lc2 hc hN hi ok hv hg ht hi1 hg1 ht1 he hs hs1) fun σ H Q h => comp2_read (fun j hj => hus hj) (fun j hj => hus1 hj) hv h
theorem es_setComp2 {i : Nat} {y : Str} {py spos : Pos} (hc : X.calm = true) (hN : X.N.Nodup) (hy : X.N[i]? = some y) (hyl : X.env.scope.names.lookup y = some .local)
    (hsw : swapsWith (.ListComp elt [⟨tg, iter, ifs, 0⟩, ⟨tg1, iter1, ifs1, 0⟩] scope pos) (some (.Name y py)) spos.line X.env = pure true) (hi : EI X Wx tg iter it) (ok : BlkOk X.N X.env.scope scope own) (hv : ∀ j ∈ vs1, j ∈ own.map (·.2)) (hus : us ⊆ own.map (·.2)) (hus1 : us1 ⊆ vs1)
    (hg : ∀ (s : Shared) (H : Hp) (C : Addr) (cl : List (Str × Addr)) (fp : List Addr), EG (X.blk s H scope (compEnvC scope cl C X.env) fp) tg us g) (ht : ∀ (s : Shared) (H : Hp) (C : Addr) (cl : List (Str × Addr)) (fp : List Addr), EQ (X.blk s H scope (compEnvC scope cl C X.env) fp) Wx0 ifs ts)
    (hi1 : ∀ (s : Shared) (H : Hp) (C : Addr) (cl : List (Str × Addr)) (fp : List Addr), EI (X.blk s H scope (compEnvC scope cl C X.env) fp) Wx0 tg1 iter1 it1)
    (hg1 : ∀ (s : Shared) (H : Hp) (C : Addr) (cl : List (Str × Addr)) (fp : List Addr), EG (X.blk s H scope (compEnvC scope cl C X.env) fp) tg1 us1 g1) (ht1 : ∀ (s : Shared) (H : Hp) (C : Addr) (cl : List (Str × Addr)) (fp : List Addr), EQ (X.blk s H scope (compEnvC scope cl C X.env) fp) Wx0 ifs1 ts1)
    (he : ∀ (s : Shared) (H : Hp) (C : Addr) (cl : List (Str × Addr)) (fp : List Addr), EX (X.blk s H scope (compEnvC scope cl C X.env) fp) Wx0 elt el) (hs : ∀ x, foldedSetIterable iter X.env x = pure x := by intro _; rfl) (hs1 : ∀ env x, foldedSetIterable iter1 env x = pure x := by intro _ _; rfl) :
    ES X Wx (.Assign [.Name y py] (.ListComp elt [⟨tg, iter, ifs, 0⟩, ⟨tg1, iter1, ifs1, 0⟩] scope pos) spos) (sSet i (xComp2 it g ts it1 g1 ts1 el (own.map (·.2)) vs1)) :=
  PS.wk (ps_setLc2 hc hN hy hyl hsw hi ok hv hg ht hi1 hg1 ht1 he hs hs1) fun D σ H h => comp2_read (fun j hj => hus hj) (fun j hj => hus1 hj) hv (tX_tN (set_read h))
end
end DP
set_option Elab.async false
set_option linter.all false
set_option maxRecDepth 100000
/-! DP, part 8: defs and their calls. -/
namespace DP
open PySem PySem.Spec PyProof.Rows L2

abbrev FD := List D → Out D
/-- what a caller wants of a def that changes nothing -/
def onF (K : PySem.W.Frag) (w : World) (mg : Str → Option Value) (W H : Hp) (o : Out D) (Q : VK) (E : XK) : Prop := match o with
  | .ok d => ∀ W' H' v, Ex W H W' H' → Rep K w W' d v → Q v H'
  | .exc c d _ => ∀ C W' H' dx v, mg c = some (.ref C) → Ex W H W' H' → H' dx = some (.xd [("at", v)]) → Rep K w W' d v → E (.ref C) (some dx) H'
  | .bad => False
/-- the promise of a def that reckons F, of n parameters -/
def spF (K : PySem.W.Frag) (w : World) (mg : Str → Option Value) (n : Nat) (F : FD) : Sp := fun vs H Q E => ∃ W ds, Same W H ∧ RepL K w W ds vs ∧ ds.length = n ∧ onF K w mg W H (F ds) Q E
/-- a body of n slots run at the parameters -/
def runB (n : Nat) (B : SF) (ds : List D) : Out D := match B (ds.map .fz ++ List.replicate (n - ds.length) .no) with
  | .ok (.rt d, _) => .ok d
  | .ok (.nx, _) => .ok .none
  | .ok _ => .bad
  | .exc c d e => .exc c d e
  | .bad => .bad
def xCall (n : Nat) (F : FD) (g : AF) : XF := fun env => (g env).bind fun r => if r.1.length = n then (match F r.1 with
  | .ok d => .ok (d, r.2)
  | .exc c d _ => .exc c d r.2
  | .bad => .bad) else .bad

theorem Fr.ex {W H W' H' : Hp} {P P' : Addr → Prop} (F : Fr W H P W' H' P') (hP : ∀ p, ¬ P p) (s : Same W' H') : Ex W H W' H' :=
  ⟨F.ext, fun p o h => F.keep p o h (hP p), s, fun p h1 h2 => (F.new p h1 h2).resolve_left (hP p)⟩
theorem own_none {n : Nat} (p : Addr) : ¬ ownd (List.replicate n []) p := fun ⟨i, l, h, hp⟩ => by
  rw [List.getElem?_replicate] at h
  split at h
  · cases h; cases hp
  · cases h
/-- the parameters' picture -/
theorem SR.start {K : PySem.W.Frag} {w : World} {ρ : Nat → Addr} {W H : Hp} {ds : List D} {vs : List V} {N : List Str} (s : Same W H) (r : RepL K w W ds vs) :
    SR K w ρ W H (ds.map .fz ++ List.replicate (N.length - ds.length) .no) (L2.start N vs) (List.replicate (L2.start N vs).length []) := by
  have hl := r.len
  refine ⟨s, ?_, by simp, fun i sl v l h1 h2 h3 => ?_, fun i j l m p h1 h2 h3 _ => ?_⟩
  · unfold L2.start
    simp only [List.length_append, List.length_map, List.length_replicate]
    omega
  · rw [List.getElem?_replicate] at h3
    split at h3
    · cases h3
      unfold L2.start at h2
      by_cases hi : i < ds.length
      · rw [List.getElem?_append_left (by simpa using hi), List.getElem?_map, List.getElem?_eq_getElem hi] at h1
        cases h1
        rw [List.getElem?_append_left (by simp; omega), List.getElem?_map] at h2
        obtain ⟨x, hx, rx⟩ := r.at (List.getElem?_eq_getElem hi)
        rw [hx] at h2
        cases h2
        exact ⟨rfl, x, rfl, rx⟩
      · rw [List.getElem?_append_right (by simp; omega), List.getElem?_replicate] at h1
        split at h1 <;> cases h1
        exact rfl
    · cases h3
  · exact absurd ⟨i, l, h1, h3⟩ (own_none p)
section
variable {P : Program} {w : World} {K : PySem.W.Frag} {mg : Str → Option Value} {base : Heap}
/-- A DEF: its body's rules, and what they reckon -/
theorem fn_pure {x qual : Str} {st : Stmt} {f : Addr} {fd : FuncData} {N ps : List Str} {k : Nat} {F : FD} {B : SF} (Fn : Fun K x qual st f fd) (S : FnScope N ps (defScope st)) (hF : ∀ ds, ds.length = ps.length → F ds = runB N.length B ds)
    (body : ∀ (cdv : Value) (A : Around) (outer : List Env) (s : Shared) (H : Hp) (E : XK), Room k (A.deeper (envOfC qual (defScope st) s.heap.objs.size f cdv)) →
      EB (cxOf (L2.CX P w) P w K mg base N qual (defScope st) f cdv A outer s H E) (fun cls d _ H => E cls d H) (defBody st) B) :
    FnOk P w K mg base (L2.CX P w) (k + 1) f fd ps (spF K w mg ps.length F) := by
  refine Fn.okX S (fun vs H Q E h => ?_) fun cdv A outer s H vs Q E hr h => ⟨_, body cdv A outer s H E hr, ?_⟩
  · obtain ⟨W, ds, _, r, hl, _⟩ := h
    exact r.len.trans hl
  · obtain ⟨W, ds, sm, r, hl, h⟩ := h
    refine ⟨fun _ => 0, W, _, _, SR.start sm r, ?_⟩
    rw [hF ds hl] at h
    unfold runB at h
    have ex : ∀ {W' H' : Hp} {A' : List (List Addr)}, Same W' H' → Fr W H (ownd (List.replicate (L2.start N vs).length [])) W' H' (ownd A') → Ex W H W' H' := fun s F => F.ex own_none s
    cases eb : B (ds.map .fz ++ List.replicate (N.length - ds.length) .no) with
    | bad => rw [eb] at h; exact h.elim
    | exc c d e =>
      rw [eb] at h
      exact fun C W' H' A' σ' dx v g S' F' x r' => h C W' H' dx v g (ex S'.sub F') x r'
    | ok q =>
      obtain ⟨fl, env'⟩ := q
      rw [eb] at h
      cases fl with
      | nx => exact fun W' H' A' σ' S' F' => h W' H' _ (ex S'.sub F') rfl
      | rt d => exact fun W' H' A' σ' S' F' v rv => h W' H' v (ex S'.sub F') rv
      | bk => exact h.elim
      | ct => exact h.elim
end
section
variable {X : Cx} {Wx : WX} {k n : Nat} {f : Addr} {fd : FuncData} {ps : List Str} {F : FD} {x : Str} {p pos : Pos} {e : Expr} {es : List Expr} {g : AF}
theorem ex_call (G : FnOk X.prog X.w X.K X.mg X.base (L2.CX X.prog X.w) k f fd ps (spF X.K X.w X.mg n F)) (hr : Room k X.A) (hg : Gl X x) (hm : X.mg x = some (.ref f)) (hk : PySem.W.keepIn X.K (.ref f) = true) (hb : Binds X.K fd ps [])
    (tk : Takes X Wx) (ha : EA X Wx (e :: es) g) (hdb : (x == ("__debug__" : Str)) = false := by decide) (he : starEach (e :: es) X.env = (false, eval e X.env) :: starEach es X.env := by rfl) (hpl : (backTo pos (starEach es X.env)).any (·.1) = false := by rfl) :
    EX X Wx (.Call (.Name x p) (e :: es) [] pos) (xCall n F g) := by
  refine PE.wk (pe_callSD (E := fun σ cls d H => Wx cls d σ H) G hr hg hm hk hb .nil (fun σ => passAt tk σ) ha hdb he hpl) ?_
  rintro σ H Q ⟨ρ, W, env, A, S, h⟩
  refine tG_then S h fun ds W1 H1 env1 A1 vs S1 F1 r1 h1 => ?_
  by_cases hn : ds.length = n
  · simp only [if_pos hn] at h1
    rw [List.append_nil]
    refine ⟨W1, ds, S1.sub, r1, hn, ?_⟩
    cases eF : F ds with
    | bad => rw [eF] at h1; exact h1.elim
    | ok d =>
      rw [eF] at h1
      exact fun W' H' v ex r => h1 W' H' A1 v (S1.ex ex) (ex.fr _) r
    | exc c d e' =>
      rw [eF] at h1
      exact fun C W' H' dx v g ex hx r => h1 C W' H' A1 dx v g (S1.ex ex) (ex.fr _) hx r
  · simp only [if_neg hn] at h1
    exact h1.elim
end
/-! ### built-ins -/
section
variable {X : Cx} {Wx : WX} {x : Str} {id T : String} {p pos : Pos} {e : Expr} {es : List Expr} {g : AF} {op : List D → Option D}
theorem ex_blt (hc : CallR X (.builtin id) (tVn X.K X.w op)) (hg : Gl X x) (hm : X.mg x = none) (hv : bootBuiltins x = some (.builtin id)) (ha : EA X Wx (e :: es) g) (hn : x ≠ "__name__" := by decide) (hdb : (x == ("__debug__" : Str)) = false := by decide)
    (he : starEach (e :: es) X.env = (false, eval e X.env) :: starEach es X.env := by rfl) (hpl : (backTo pos (starEach es X.env)).any (·.1) = false := by rfl) : EX X Wx (.Call (.Name x p) (e :: es) [] pos) (xn op g) := by
  refine PE.wk (pe_callB hc hg hm hv ha hn hdb he hpl) ?_
  rintro σ H Q ⟨ρ, W, env, A, S, h⟩
  exact tG_then S h fun ds W1 H1 env1 A1 vs S1 F1 r1 h1 => ⟨W1, ds, S1.sub, r1, onV_of S1 h1⟩
theorem en_blt (hc : CallR X (.builtin id) (tWn X.K X.w op)) (hg : Gl X x) (hm : X.mg x = none) (hv : bootBuiltins x = some (.builtin id)) (ha : EA X Wx (e :: es) g) (hn : x ≠ "__name__" := by decide) (hdb : (x == ("__debug__" : Str)) = false := by decide)
    (he : starEach (e :: es) X.env = (false, eval e X.env) :: starEach es X.env := by rfl) (hpl : (backTo pos (starEach es X.env)).any (·.1) = false := by rfl) : EN X Wx (.Call (.Name x p) (e :: es) [] pos) (xn op g) := by
  refine PE.wk (pe_callB hc hg hm hv ha hn hdb he hpl) ?_
  rintro σ H Q ⟨ρ, W, env, A, S, h⟩
  exact tN_then S h fun ds W1 H1 env1 A1 vs S1 F1 r1 h1 => ⟨W1, ds, S1.sub, r1, onW_of S1 h1⟩
theorem ex_bty (hc : CallR X (.type T) (tVn X.K X.w op)) (hg : Gl X x) (hm : X.mg x = none) (hv : bootBuiltins x = some (.type T)) (ha : EA X Wx (e :: es) g) (hn : x ≠ "__name__" := by decide) (hdb : (x == ("__debug__" : Str)) = false := by decide)
    (he : starEach (e :: es) X.env = (false, eval e X.env) :: starEach es X.env := by rfl) (hpl : (backTo pos (starEach es X.env)).any (·.1) = false := by rfl) : EX X Wx (.Call (.Name x p) (e :: es) [] pos) (xn op g) := by
  refine PE.wk (pe_callTy hc hg hm hv ha hn hdb he hpl) ?_
  rintro σ H Q ⟨ρ, W, env, A, S, h⟩
  exact tG_then S h fun ds W1 H1 env1 A1 vs S1 F1 r1 h1 => ⟨W1, ds, S1.sub, r1, onV_of S1 h1⟩
theorem en_bty (hc : CallR X (.type T) (tWn X.K X.w op)) (hg : Gl X x) (hm : X.mg x = none) (hv : bootBuiltins x = some (.type T)) (ha : EA X Wx (e :: es) g) (hn : x ≠ "__name__" := by decide) (hdb : (x == ("__debug__" : Str)) = false := by decide)
    (he : starEach (e :: es) X.env = (false, eval e X.env) :: starEach es X.env := by rfl) (hpl : (backTo pos (starEach es X.env)).any (·.1) = false := by rfl) : EN X Wx (.Call (.Name x p) (e :: es) [] pos) (xn op g) := by
  refine PE.wk (pe_callTy hc hg hm hv ha hn hdb he hpl) ?_
  rintro σ H Q ⟨ρ, W, env, A, S, h⟩
  exact tN_then S h fun ds W1 H1 env1 A1 vs S1 F1 r1 h1 => ⟨W1, ds, S1.sub, r1, onW_of S1 h1⟩
end
end DP
set_option Elab.async false
set_option linter.all false
set_option maxRecDepth 100000
/-! DP, part 9: what is walked; built-ins. -/
namespace DP
open PySem PySem.Spec PyProof.Rows L2

/-! ### walks -/
section
variable {K : PySem.W.Frag} {w : World} {W : Hp}
theorem wk_list {ds : List D} {a : Addr} {vs : List V} (h : W a = some (.lst vs)) (r : RepL K w W ds vs) : Wk K w W ds (Itl K a) where
  go i H W2 s1 s2 hi := by
    obtain ⟨x, hx, _⟩ := r.at (List.getElem?_eq_getElem hi)
    exact ⟨vs, x, .of (s2 _ _ (s1 _ _ h)), hx⟩
  stop i H W2 s1 s2 hi := ⟨vs, .of (s2 _ _ (s1 _ _ h)), by rw [r.len]; exact hi⟩
  yld i H W2 v H' x s1 s2 hx y := by
    obtain ⟨rfl, y⟩ := y
    obtain ⟨u, hu, ru⟩ := r.at hx
    have e := y vs (.of (s2 _ _ (s1 _ _ h)))
    rw [hu] at e
    cases e
    exact ⟨W2, Ex.refl s2, Rep.mono s1 _ _ ru⟩
theorem wk_tup {ds : List D} {a : Addr} {vs : List V} (h : SqT K W a vs) (r : RepL K w W ds vs) : Wk K w W ds (Itt K a) where
  go i H W2 s1 s2 hi := by
    obtain ⟨x, hx, _⟩ := r.at (List.getElem?_eq_getElem hi)
    exact ⟨vs, x, Same.sqt s2 (Same.sqt s1 h), hx⟩
  stop i H W2 s1 s2 hi := ⟨vs, Same.sqt s2 (Same.sqt s1 h), by rw [r.len]; exact hi⟩
  yld i H W2 v H' x s1 s2 hx y := by
    obtain ⟨rfl, y⟩ := y
    obtain ⟨u, hu, ru⟩ := r.at hx
    have e := y vs (Same.sqt s2 (Same.sqt s1 h))
    rw [hu] at e
    cases e
    exact ⟨W2, Ex.refl s2, Rep.mono s1 _ _ ru⟩
/-- lo, lo + c, .. (n of them) -/
def rngD (lo c : Int) (n : Nat) : List D := (List.range n).map fun (i : Nat) => .int (lo + (i : Int) * c)
theorem rngD_at {lo c : Int} {n i : Nat} {x : D} (h : (rngD lo c n)[i]? = some x) : i < n ∧ x = .int (lo + (i : Int) * c) := by
  unfold rngD at h
  rw [List.getElem?_map] at h
  cases e : (List.range n)[i]? with
  | none => rw [e] at h; cases h
  | some j =>
    rw [e] at h
    have hl := (List.getElem?_eq_some_iff.mp e).1
    rw [List.length_range] at hl
    rw [List.getElem?_range hl] at e
    cases e
    cases h
    exact ⟨hl, rfl⟩
theorem rngD_len (lo c : Int) (n : Nat) : (rngD lo c n).length = n := by simp [rngD]
theorem wk_rng {lo : Int} {n : Nat} : Wk K w W (rngD lo 1 n) (Itr lo n) where
  go i H W2 s1 s2 hi := by rw [rngD_len] at hi; exact hi
  stop i H W2 s1 s2 hi := by rw [rngD_len] at hi; exact hi
  yld i H W2 v H' x s1 s2 hx y := by
    obtain ⟨rfl, rfl⟩ := y
    obtain ⟨hi, rfl⟩ := rngD_at hx
    exact ⟨W2, Ex.refl s2, by simp only [Rep, Int.mul_one]⟩
theorem wk_rngC {lo c : Int} {n : Nat} : Wk K w W (rngD lo c n) (Itc lo c n) where
  go i H W2 s1 s2 hi := by rw [rngD_len] at hi; exact hi
  stop i H W2 s1 s2 hi := by rw [rngD_len] at hi; exact hi
  yld i H W2 v H' x s1 s2 hx y := by
    obtain ⟨rfl, rfl⟩ := y
    obtain ⟨hi, rfl⟩ := rngD_at hx
    exact ⟨W2, Ex.refl s2, rfl⟩
end
/-- the items of a list, a tuple -/
def seqD : D → Option (List D)
  | .list ds => some ds
  | .tuple ds => some ds
  | _ => none
def iSeq (f : XF) : IF := fun env => (f env).bind fun r => liftO (seqD r.1) r.2
def s62 (i : Int) : Bool := decide (-(2 ^ 62) ≤ i) && decide (i < 2 ^ 62)
theorem s62_iff {i : Int} : s62 i = true ↔ -(2 ^ 62) ≤ i ∧ i < 2 ^ 62 := by simp [s62]
def rng1 : List D → Option (List D)
  | [.int j] => if s62 j then some (rngD 0 1 j.toNat) else none
  | _ => none
def rng2 : List D → Option (List D)
  | [.int i, .int j] => if s62 i && s62 j then some (rngD i 1 (j - i).toNat) else none
  | _ => none
/-- how many turns range(i, j, c) takes -/
def rngN (i j c : Int) : Nat := (Builtin.Range.rangeSize i j c).toNat
def rng3 : List D → Option (List D)
  | [.int i, .int j, .int c] => if c ≠ 0 ∧ c.natAbs < 1073741824 ∧ Builtin.Range.small i j c = true then some (rngD i c (rngN i j c)) else none
  | _ => none
def iArgs (op : List D → Option (List D)) (f : AF) : IF := fun env => (f env).bind fun r => liftO (op r.1) r.2
section
variable {X : Cx} {Wx : WX} {tg a b c e : Expr} {es : List Expr} {f : XF} {g : AF} {p pos : Pos}
/-- a list or a tuple, as it comes -/
theorem pi_seq {tl : TE} (hl : PE X e tl) : PI X tg e (fun σ H R => tl σ H fun x H1 => (∃ a, x = .ref a ∧ (∃ xs, SqL X.K H1 a xs) ∧ R (Itl X.K a) H1) ∨ (∃ a, x = .ref a ∧ (∃ xs, SqT X.K H1 a xs) ∧ R (Itt X.K a) H1)) := by
  refine ⟨fun pins s σ H R I h => ?_⟩
  refine thn (hl.run pins s σ H _ I h) fun u s1 ⟨x, H1, I1, r1, q1⟩ => ?_
  rcases q1 with ⟨a, ex, ⟨xs, hq⟩, q⟩ | ⟨a, ex, ⟨xs, hq⟩, q⟩
  · subst ex
    cases r1
    obtain ⟨us, _, pl, _⟩ := I1.list hq
    exact wpAny_pyIter_list pl.isList (pi_one (tk := s1.toks) I1 _ (turn_list a _) ⟨_, Heap.get?_push_size _ rfl, rfl, rfl⟩ q)
  · subst ex
    cases r1
    obtain ⟨us, _, pl, _⟩ := I1.tuple hq
    exact wpAny_pyIter_tuple (show s1.heap.IsTuple a us.toArray from pl) (pi_one (tk := s1.toks) I1 _ (turn_tuple a _) ⟨_, Heap.get?_push_size _ rfl, rfl, rfl⟩ q)
theorem wk_of {o : Option (List D)} {ρ : Nat → Addr} {σ : L2.St} {W H : Hp} {A : List (List Addr)} {env : Ev} {R : It → Hp → Prop} {J : It} {xs : List D}
    (S : SR X.K X.w ρ W H env σ A) (h : onG X.K X.w X.mg Wx (fun W xs J => Wk X.K X.w W xs J) ρ σ W H A (liftO o env) R) (ho : o = some xs) (wk : Wk X.K X.w W xs J) : R J H := by
  subst ho
  exact h W H A J S (Fr.refl _ _ _) wk
theorem ei_seq (h : EX X Wx e f) : EI X Wx tg e (iSeq f) := by
  refine PI.wk (pi_seq h) ?_
  rintro σ H R ⟨ρ, W, env, A, S, h⟩
  refine tG_then S h fun d W1 H1 env1 A1 v S1 F1 r1 h1 => ?_
  cases d with
  | list ds =>
    simp only [Rep] at r1
    obtain ⟨a, vs, rfl, q, l⟩ := r1
    exact .inl ⟨a, rfl, ⟨vs, .of (S1.sub _ _ q)⟩, wk_of S1 h1 rfl (wk_list q l)⟩
  | tuple ds =>
    simp only [Rep] at r1
    obtain ⟨a, vs, rfl, q, l⟩ := r1
    exact .inr ⟨a, rfl, ⟨vs, Same.sqt S1.sub q⟩, wk_of S1 h1 rfl (wk_tup q l)⟩
  | _ => exact h1.elim
theorem RepL.int1 {K : PySem.W.Frag} {w : World} {W : Hp} {j : Int} {vs : List V} (h : RepL K w W [.int j] vs) : vs = [.int j] := by
  simp only [RepL, Rep] at h
  obtain ⟨v, r, rfl, rfl, rfl⟩ := h
  rfl
theorem RepL.int2 {K : PySem.W.Frag} {w : World} {W : Hp} {i j : Int} {vs : List V} (h : RepL K w W [.int i, .int j] vs) : vs = [.int i, .int j] := by
  simp only [RepL, Rep] at h
  obtain ⟨v, r, rfl, rfl, v', r', rfl, rfl, rfl⟩ := h
  rfl
theorem RepL.int3 {K : PySem.W.Frag} {w : World} {W : Hp} {i j k : Int} {vs : List V} (h : RepL K w W [.int i, .int j, .int k] vs) : vs = [.int i, .int j, .int k] := by
  simp only [RepL, Rep] at h
  obtain ⟨v, r, rfl, rfl, v', r', rfl, rfl, v'', r'', rfl, rfl, rfl⟩ := h
  rfl
theorem ei_rng1 (hg : Gl X "range") (hm : X.mg "range" = none) (h : EA X Wx [a] g) (hs : starEach [a] X.env = [(false, eval a X.env)] := by rfl) : EI X Wx tg (.Call (.Name "range" p) [a] [] pos) (iArgs rng1 g) := by
  refine PI.wk (pi_range1 hg hm h hs) ?_
  rintro σ H R ⟨ρ, W, env, A, S, h⟩
  refine tG_then S h fun ds W1 H1 env1 A1 vs S1 F1 r1 h1 => ?_
  simp only [rng1] at h1
  split at h1
  · split at h1
    · rename_i c
      obtain ⟨c1, c2⟩ := s62_iff.mp c
      exact ⟨_, r1.int1, c1, c2, wk_of S1 h1 rfl wk_rng⟩
    · exact h1.elim
  · exact h1.elim
theorem ei_rng2 (hg : Gl X "range") (hm : X.mg "range" = none) (h : EA X Wx [a, b] g) (hs : starEach [a, b] X.env = [(false, eval a X.env), (false, eval b X.env)] := by rfl) (hs2 : starEach [b] X.env = [(false, eval b X.env)] := by rfl) :
    EI X Wx tg (.Call (.Name "range" p) [a, b] [] pos) (iArgs rng2 g) := by
  refine PI.wk (pi_range2 hg hm h hs hs2) ?_
  rintro σ H R ⟨ρ, W, env, A, S, h⟩
  refine tG_then S h fun ds W1 H1 env1 A1 vs S1 F1 r1 h1 => ?_
  simp only [rng2] at h1
  split at h1
  · split at h1
    · rename_i c
      rw [Bool.and_eq_true, s62_iff, s62_iff] at c
      exact ⟨_, _, r1.int2, ⟨c.1.1, c.1.2, c.2.1, c.2.2⟩, wk_of S1 h1 rfl wk_rng⟩
    · exact h1.elim
  · exact h1.elim
theorem ei_rng3 (hg : Gl X "range") (hm : X.mg "range" = none) (h : EA X Wx [a, b, c] g) (hs : starEach [a, b, c] X.env = (false, eval a X.env) :: starEach [b, c] X.env := by rfl) (hpl : (backTo pos (starEach [b, c] X.env)).any (·.1) = false := by rfl) :
    EI X Wx tg (.Call (.Name "range" p) [a, b, c] [] pos) (iArgs rng3 g) := by
  refine PI.wk (pi_range3 hg hm h hs hpl) ?_
  rintro σ H R ⟨ρ, W, env, A, S, h⟩
  refine tG_then S h fun ds W1 H1 env1 A1 vs S1 F1 r1 h1 => ?_
  simp only [rng3] at h1
  split at h1
  · split at h1
    · rename_i i j k c
      exact ⟨_, _, _, rngN i j k, r1.int3, ⟨c.1, c.2.1, c.2.2, PyProof.Rows.rangeSize_toNat i j k⟩, wk_of S1 h1 rfl wk_rngC⟩
    · exact h1.elim
  · exact h1.elim
end

/-! ### built-ins by values -/
theorem RepL.one {K : PySem.W.Frag} {w : World} {W : Hp} {d : D} {vs : List V} (h : RepL K w W [d] vs) : ∃ v, vs = [v] ∧ Rep K w W d v := by
  simp only [RepL] at h
  obtain ⟨v, r, rfl, h1, rfl⟩ := h
  exact ⟨v, rfl, h1⟩
theorem RepL.two {K : PySem.W.Frag} {w : World} {W : Hp} {d d' : D} {vs : List V} (h : RepL K w W [d, d'] vs) : ∃ v u, vs = [v, u] ∧ Rep K w W d v ∧ Rep K w W d' u := by
  simp only [RepL] at h
  obtain ⟨v, r, rfl, h1, u, r', rfl, h2, rfl⟩ := h
  exact ⟨v, u, rfl, h1, h2⟩
def absD : List D → Option D
  | [.int i] => some (.int (if i < 0 then -i else i))
  | _ => none
def intD : List D → Option D
  | [.int i] => some (.int i)
  | [.bool b] => some (.int (if b then 1 else 0))
  | _ => none
def max2D : List D → Option D
  | [.int i, .int j] => some (.int (if j > i then j else i))
  | _ => none
def min2D : List D → Option D
  | [.int i, .int j] => some (.int (if j < i then j else i))
  | _ => none
def listD : List D → Option D
  | [.list ds] => some (.list ds)
  | [.tuple ds] => some (.list ds)
  | _ => none
def tupleD : List D → Option D
  | [.list ds] => some (.tuple ds)
  | [.tuple ds] => some (.tuple ds)
  | _ => none
def boolsD : List D → Option (List Bool)
  | [] => some []
  | .bool b :: r => (boolsD r).map (b :: ·)
  | _ => none
def intsD : List D → Option (List Int)
  | [] => some []
  | .int b :: r => (intsD r).map (b :: ·)
  | _ => none
def allD : List D → Option D
  | [.list ds] => (boolsD ds).map fun bs => .bool (bs.all id)
  | _ => none
def anyD : List D → Option D
  | [.list ds] => (boolsD ds).map fun bs => .bool (bs.any id)
  | _ => none
def sumD : List D → Option D
  | [.list ds] => (intsD ds).map fun bs => .int bs.sum
  | _ => none
section
variable {X : Cx} {K : PySem.W.Frag} {w : World} {W : Hp}
theorem boolsD_rep : ∀ {ds : List D} {vs : List V} {bs : List Bool}, RepL K w W ds vs → boolsD ds = some bs → vs = bs.map V.bl
  | [], vs, bs, h, e => by
    simp only [RepL] at h
    cases e
    exact h
  | d :: ds, vs, bs, h, e => by
    simp only [RepL] at h
    obtain ⟨v, r, rfl, h1, h2⟩ := h
    cases d with
    | bool b =>
      unfold boolsD at e
      obtain ⟨cs, e1, rfl⟩ := Option.map_eq_some_iff.mp e
      rw [boolsD_rep h2 e1]
      simp only [Rep] at h1
      rw [h1]
      rfl
    | _ => cases e
theorem intsD_rep : ∀ {ds : List D} {vs : List V} {bs : List Int}, RepL K w W ds vs → intsD ds = some bs → vs = bs.map V.int
  | [], vs, bs, h, e => by
    simp only [RepL] at h
    cases e
    exact h
  | d :: ds, vs, bs, h, e => by
    simp only [RepL] at h
    obtain ⟨v, r, rfl, h1, h2⟩ := h
    cases d with
    | int b =>
      unfold intsD at e
      obtain ⟨cs, e1, rfl⟩ := Option.map_eq_some_iff.mp e
      rw [intsD_rep h2 e1]
      simp only [Rep] at h1
      rw [h1]
      rfl
    | _ => cases e
theorem cr_abs : CallR X (.builtin "abs") (tVn X.K X.w absD) := by
  refine CallR.wk call_abs ?_
  rintro vs H Q ⟨W, ds, s, r, h⟩
  unfold absD at h
  split at h
  · exact ⟨_, r.int1, h.flat s rfl⟩
  · exact h.elim
theorem cr_int : CallR X (.type "int") (tVn X.K X.w intD) := by
  refine CallR.wk call_int1 ?_
  rintro vs H Q ⟨W, ds, s, r, h⟩
  unfold intD at h
  split at h
  · exact .inl ⟨_, r.int1, h.flat s rfl⟩
  · obtain ⟨v, rfl, rv⟩ := r.one
    simp only [Rep] at rv
    subst rv
    exact .inr ⟨_, rfl, h.flat s rfl⟩
  · exact h.elim
theorem cr_max2 (hc : X.calm = true) : CallR X (.builtin "max") (tVn X.K X.w max2D) := by
  refine CallR.wk (call_max2 hc) ?_
  rintro vs H Q ⟨W, ds, s, r, h⟩
  unfold max2D at h
  split at h
  · exact ⟨_, _, r.int2, h.flat s rfl⟩
  · exact h.elim
theorem cr_min2 (hc : X.calm = true) : CallR X (.builtin "min") (tVn X.K X.w min2D) := by
  refine CallR.wk (call_min2 hc) ?_
  rintro vs H Q ⟨W, ds, s, r, h⟩
  unfold min2D at h
  split at h
  · exact ⟨_, _, r.int2, h.flat s rfl⟩
  · exact h.elim
theorem cr_list : CallR X (.type "list") (tWn X.K X.w listD) := by
  refine CallR.wk call_list_of ?_
  rintro vs H Q ⟨W, ds, s, r, h⟩
  unfold listD at h
  split at h
  · obtain ⟨v, rfl, rv⟩ := r.one
    simp only [Rep] at rv
    obtain ⟨a, us, rfl, q, l⟩ := rv
    exact ⟨a, us, rfl, .inl (.of (s _ _ q)), fun p n => h.lst s l n⟩
  · obtain ⟨v, rfl, rv⟩ := r.one
    simp only [Rep] at rv
    obtain ⟨a, us, rfl, q, l⟩ := rv
    exact ⟨a, us, rfl, .inr (Same.sqt s q), fun p n => h.lst s l n⟩
  · exact h.elim
theorem cr_tuple : CallR X (.type "tuple") (tVn X.K X.w tupleD) := by
  refine CallR.wk call_tuple_of ?_
  rintro vs H Q ⟨W, ds, s, r, h⟩
  unfold tupleD at h
  split at h
  · obtain ⟨v, rfl, rv⟩ := r.one
    simp only [Rep] at rv
    obtain ⟨a, us, rfl, q, l⟩ := rv
    exact ⟨a, us, rfl, .inl ⟨.of (s _ _ q), fun p n => h.tup s l n⟩⟩
  · obtain ⟨v, rfl, rv⟩ := r.one
    have rv' := rv
    simp only [Rep] at rv
    obtain ⟨a, us, rfl, q, l⟩ := rv
    exact ⟨a, us, rfl, .inr ⟨Same.sqt s q, h.flat s rv'⟩⟩
  · exact h.elim
theorem cr_allD (hc : X.calm = true) : CallR X (.builtin "all") (tVn X.K X.w allD) := by
  refine CallR.wk (cr_all hc) ?_
  rintro vs H Q ⟨W, ds, s, r, h⟩
  unfold allD at h
  split at h
  · rename_i xs
    obtain ⟨v, rfl, rv⟩ := r.one
    simp only [Rep] at rv
    obtain ⟨a, us, rfl, q, l⟩ := rv
    cases e : boolsD xs with
    | none => rw [e] at h; exact h.elim
    | some bs =>
      rw [e] at h
      have eu := boolsD_rep l e
      subst eu
      exact ⟨a, bs, rfl, .of (s _ _ q), h.flat s rfl⟩
  · exact h.elim
theorem cr_anyD (hc : X.calm = true) : CallR X (.builtin "any") (tVn X.K X.w anyD) := by
  refine CallR.wk (cr_any hc) ?_
  rintro vs H Q ⟨W, ds, s, r, h⟩
  unfold anyD at h
  split at h
  · rename_i xs
    obtain ⟨v, rfl, rv⟩ := r.one
    simp only [Rep] at rv
    obtain ⟨a, us, rfl, q, l⟩ := rv
    cases e : boolsD xs with
    | none => rw [e] at h; exact h.elim
    | some bs =>
      rw [e] at h
      have eu := boolsD_rep l e
      subst eu
      exact ⟨a, bs, rfl, .of (s _ _ q), h.flat s rfl⟩
  · exact h.elim
theorem cr_sumD (hc : X.calm = true) : CallR X (.builtin "sum") (tVn X.K X.w sumD) := by
  refine CallR.wk (cr_sum hc) ?_
  rintro vs H Q ⟨W, ds, s, r, h⟩
  unfold sumD at h
  split at h
  · rename_i xs
    obtain ⟨v, rfl, rv⟩ := r.one
    simp only [Rep] at rv
    obtain ⟨a, us, rfl, q, l⟩ := rv
    cases e : intsD xs with
    | none => rw [e] at h; exact h.elim
    | some bs =>
      rw [e] at h
      have eu := intsD_rep l e
      subst eu
      exact ⟨a, bs, rfl, .of (s _ _ q), h.flat s rfl⟩
  · exact h.elim

/-! ### sorted, by the data's own order -/
open PySem.W in
theorem each_reads {pins : List (Addr × Obj)} {σ : L2.St} {s : Shared} {H : Hp} (I : Inv X pins σ H s) (e : Same W H) : ∀ {ds : List D} {vs : List V} {us : List Value}, RepL X.K X.w W ds vs → Vals vs us →
    EachIs (fun u d => ∃ v, RelV v u ∧ Rep X.K X.w W d v) us ds ∧ EachIs (fun u d => ∃ as, Reads s.heap u (id d) as) us ds
  | [], _, _, h, r => by
    simp only [RepL] at h
    subst h
    cases r
    exact ⟨.nil, .nil⟩
  | d :: ds, _, _, h, r => by
    simp only [RepL] at h
    obtain ⟨v, q, rfl, h1, h2⟩ := h
    cases r with
    | cons r1 r2 =>
      obtain ⟨a, b⟩ := each_reads I e h2 r2
      exact ⟨.cons ⟨v, r1, h1⟩ a, .cons (Rep.reads I e d v _ h1 r1) b⟩
/-- data that sorted serves -/
def srtOk (ds : List D) : Bool := (ds.all fun x => ds.all fun y => PySem.W.alike x y) && ((ds.all fun x => match x with
    | .tuple (_ :: _) => true
    | _ => false) || ds.all fun x => match x with
    | .none => false
    | .tuple _ => false
    | _ => true) && ds.all fun x => decide (x.depth ≤ 60)
def dLe : D → D → Bool := PySem.W.dataLe false id
def sortL (ds : List D) : List D := ds.mergeSort dLe
def sortedD : List D → Option D
  | [.list ds] => if srtOk ds then some (.list (sortL ds)) else none
  | _ => none
theorem srtOk_alike {ds : List D} (h : srtOk ds = true) : PySem.W.AllAlike (ds.map id) := by
  intro x hx y hy
  rw [List.map_id] at hx hy
  simp only [srtOk, Bool.and_eq_true, List.all_eq_true] at h
  exact h.1.1 x hx y hy
theorem srtOk_sortable {ds : List D} (h : srtOk ds = true) : PySem.W.Sortable (ds.map id) := by
  simp only [srtOk, Bool.and_eq_true, Bool.or_eq_true, List.all_eq_true] at h
  rw [List.map_id]
  rcases h.1.2 with q | q
  · refine .inl fun d hd => ?_
    have := q d hd
    split at this
    · exact ⟨_, _, rfl⟩
    · cases this
  · refine .inr fun d hd => ?_
    have := q d hd
    split at this
    · cases this
    · cases this
    · rename_i a b
      exact ⟨fun e => a e, fun xs e => b xs e⟩
theorem srtOk_depth {ds : List D} (h : srtOk ds = true) : ∀ d ∈ ds, d.depth ≤ 60 := by
  simp only [srtOk, Bool.and_eq_true, List.all_eq_true, decide_eq_true_eq] at h
  exact h.2
section
variable {X : Cx}
theorem vals_of_each {P : Value → D → Prop} {W : Hp} : ∀ {us : List Value} {ds : List D}, PySem.W.EachIs (fun u d => ∃ v, RelV v u ∧ Rep X.K X.w W d v) us ds → ∃ vs, Vals vs us ∧ RepL X.K X.w W ds vs
  | _, _, .nil => ⟨[], .nil, RepL.nil⟩
  | _, _, .cons ⟨v, h1, h2⟩ t => by
    obtain ⟨vs, r, l⟩ := vals_of_each (P := P) t
    exact ⟨v :: vs, .cons h1 r, RepL.cons h2 l⟩
theorem cr_sortedD (hu : X.A.units + 64 < cLine) : CallR X (.builtin "sorted") (tWn X.K X.w sortedD) := by
  intro pins s σ H vs us Q I r h
  obtain ⟨W, ds, sm, rl, h⟩ := h
  unfold sortedD at h
  have fin : ∀ {xs : List D} {its ws : List Value} {zs : List V}, RepL X.K X.w W xs zs → Vals zs ws → srtOk xs = true → onW X.K X.w W H (some (.list (sortL xs))) Q → xs.length ≤ sizeLine →
      ∀ out : List Value, out.length = xs.length → PySem.W.EachIs (fun u d => ∃ v, RelV v u ∧ Rep X.K X.w W d v) out (xs.mergeSort (PySem.W.dataLe false id)) →
      EP X pins σ Q (.ref (s.heap.objs.size + 1)) { s with heap := sortedAll s.heap ws out.toArray } := by
    intro xs its ws zs rz rv ok hq hz out hl he
    obtain ⟨ys, ry, ly⟩ := vals_of_each (P := fun _ _ => True) he
    obtain ⟨ep, at'⟩ := PyProof.Rows.sortedAll_at s.heap ws out.toArray
    have nf : H (s.heap.objs.size + 1) = none := I.hok.fresh (Nat.le_succ _)
    refine ⟨.ref _, upd H (s.heap.objs.size + 1) (.lst ys), I.laid (t' := s.toks) (fun _ _ => PyProof.Rows.sortedAll_old) (Nat.le_succ _) ⟨?_, out, ep, ry, at'⟩, rfl, hq.lst sm ly nf⟩
    rw [ly.len]
    show (xs.mergeSort _).length ≤ _
    rw [List.length_mergeSort]
    exact hz
  split at h
  · rename_i xs
    split at h
    · rename_i ok
      obtain ⟨v, rfl, rv⟩ := rl.one
      simp only [Rep] at rv
      obtain ⟨a, zs, rfl, q, l⟩ := rv
      obtain ⟨ws, r1, pl, hz⟩ := I.list (.of (sm _ _ q))
      obtain ⟨u, rfl, ru⟩ := vals1 r
      cases ru
      obtain ⟨e1, e2⟩ := each_reads I sm l r1
      refine PySem.W.sorted_data (bs := xs) (enc := id) (R := fun u d => ∃ v, RelV v u ∧ Rep X.K X.w W d v) pl.isList e1 e2 (srtOk_alike ok) (srtOk_sortable ok) (by rw [← l.len]; exact hz) (fun b hb => ?_) fun out hl he => ?_
      · have := srtOk_depth ok b hb
        show X.A.units + 2 + b.depth < cLine
        omega
      · exact fin (its := ws) l r1 ok h (by rw [← l.len]; exact hz) out hl he
    · exact h.elim
  · exact h.elim
end
end
end DP
set_option Elab.async false
set_option linter.all false
set_option maxRecDepth 100000
/-! DP, part 10: slices. -/
namespace DP
open PySem PySem.Spec PyProof.Rows L2

abbrev PF := Ev → Out (Option Int × Ev)
abbrev tP (X : Cx) (Wx : WX) (f : PF) : TO := tG X.K X.w X.mg Wx (fun _ a b => b = a) f
abbrev EO (X : Cx) (Wx : WX) (e : Option Expr) (f : PF) : Prop := PO X e (tP X Wx f)
def pNo : PF := fun env => .ok (none, env)
def asI (r : D × Ev) : Out (Option Int × Ev) := match r.1 with
  | .int i => .ok (some i, r.2)
  | _ => .bad
def pAt (f : XF) : PF := fun env => (f env).bind asI
def cutL {α : Type} (xs : List α) (lo hi : Option Int) : List α := (xs.drop (HT.sIx xs.length 0 lo)).take (HT.sIx xs.length xs.length hi - HT.sIx xs.length 0 lo)
def slD : D → Option Int → Option Int → Option D
  | .list ds, l, h => some (.list (cutL ds l h))
  | .tuple ds, l, h => some (.tuple (cutL ds l h))
  | .str x, l, h => if x.length ≤ sizeLine then some (.str (cutS x l h)) else none
  | _, _, _ => none
def xSl (f : XF) (pl ph : PF) : XF := fun env => (f env).bind fun r => (pl r.2).bind fun l => (ph l.2).bind fun h => liftO (slD r.1 l.1 h.1) h.2
section
variable {X : Cx} {Wx : WX} {e : Expr} {f : XF} {lo hi : Option Expr} {pl ph : PF} {pos p2 : Pos} {K : PySem.W.Frag} {w : World} {W : Hp}
theorem RepL.cut {ds : List D} {vs : List V} (h : RepL K w W ds vs) (l u : Option Int) : RepL K w W (cutL ds l u) (cutV vs l u) := by
  unfold cutL cutV
  rw [h.len]
  exact (h.drop _).take _
theorem eo_none : EO X Wx none pNo := by
  refine ⟨fun pins s σ H Q I q => po_none.run pins s σ H Q I ?_⟩
  obtain ⟨ρ, W, env, A, S, h⟩ := q
  exact h W H A none S (Fr.refl _ _ _) rfl
theorem eo_some (h : EX X Wx e f) : EO X Wx (some e) (pAt f) := by
  refine ⟨fun pins s σ H Q I q => (po_some h).run pins s σ H Q I ?_⟩
  obtain ⟨ρ, W, env, A, S, h⟩ := q
  refine tG_then S h fun d W1 H1 env1 A1 v S1 F1 r1 h1 => ?_
  cases d with
  | int i =>
    simp only [Rep] at r1
    exact ⟨i, r1, h1 W1 H1 A1 _ S1 (Fr.refl _ _ _) rfl⟩
  | _ => exact h1.elim
theorem ex_slice (h : EX X Wx e f) (hl : EO X Wx lo pl) (hh : EO X Wx hi ph) : EX X Wx (.Subscript e (.Slice lo hi none p2) pos) (xSl f pl ph) := by
  refine PE.wk (pe_slice (SlR.or sl_list (SlR.or sl_tupA sl_str)) h hl hh) ?_
  rintro σ H Q ⟨ρ, W, env, A, S, h⟩
  refine tG_then S h fun d W1 H1 env1 A1 v S1 F1 r1 h1 => ?_
  refine tG_then S1 h1 fun l W2 H2 env2 A2 l' S2 F2 r2 h2 => ?_
  refine tG_then S2 h2 fun u W3 H3 env3 A3 u' S3 F3 r3 h3 => ?_
  subst r2 r3
  have h4 := onV_of S3 h3
  have r4 := Rep.mono (F2.ext.trans F3.ext) d v r1
  dsimp only at h4
  cases d with
  | list ds =>
    simp only [Rep] at r4
    obtain ⟨a, vs, rfl, q, r⟩ := r4
    exact .inl ⟨a, vs, rfl, .of (S3.sub _ _ q), fun p n => h4.lst S3.sub (r.cut _ _) n⟩
  | tuple ds =>
    have r5 := r4
    simp only [Rep] at r4
    obtain ⟨a, vs, rfl, q, r⟩ := r4
    refine .inr (.inl ⟨a, vs, rfl, Same.sqt S3.sub q, fun hw => h4.flat S3.sub ?_, fun hw p n => h4.tup S3.sub (r.cut _ _) n⟩)
    have e1 : cutL ds l' u' = ds := by
      unfold cutL
      rw [r.len] at hw
      rw [hw.1, hw.2, List.drop_zero, Nat.sub_zero, List.take_length]
    rw [e1]
    exact r5
  | str x =>
    simp only [Rep] at r4
    simp only [slD] at h4
    split at h4
    · rename_i c
      exact .inr (.inr ⟨x, r4, c, h4.flat S3.sub rfl⟩)
    · exact h4.elim
  | _ => exact h4.elim
/-- a slice of a list, one's own -/
def xSlN (f : XF) (pl ph : PF) : XF := fun env => (f env).bind fun r => (pl r.2).bind fun l => (ph l.2).bind fun h => liftO (match r.1 with
  | .list ds => some (.list (cutL ds l.1 h.1))
  | _ => none) h.2
theorem en_slice (h : EX X Wx e f) (hl : EO X Wx lo pl) (hh : EO X Wx hi ph) : EN X Wx (.Subscript e (.Slice lo hi none p2) pos) (xSlN f pl ph) := by
  refine PE.wk (pe_slice sl_list h hl hh) ?_
  rintro σ H Q ⟨ρ, W, env, A, S, h⟩
  refine tN_then S h fun d W1 H1 env1 A1 v S1 F1 r1 h1 => ?_
  refine tN_then S1 h1 fun l W2 H2 env2 A2 l' S2 F2 r2 h2 => ?_
  refine tN_then S2 h2 fun u W3 H3 env3 A3 u' S3 F3 r3 h3 => ?_
  subst r2 r3
  have h4 := onW_of S3 h3
  have r4 := Rep.mono (F2.ext.trans F3.ext) d v r1
  dsimp only at h4
  cases d with
  | list ds =>
    simp only [Rep] at r4
    obtain ⟨a, vs, rfl, q, r⟩ := r4
    exact ⟨a, vs, rfl, .of (S3.sub _ _ q), fun p n => h4.lst S3.sub (r.cut _ _) n⟩
  | _ => exact h4.elim
end
end DP
set_option Elab.async false
set_option linter.all false
set_option maxRecDepth 100000
/-! DP, part 11: dicts whose keys are any data that may be keys. -/
namespace DP
open PySem PySem.Spec PyProof.Rows L2
open Sem (wp)

/-- the entries es have the keys ks -/
structure Ents (w : World) (h : Heap) (ks : List NestedKey) (es : Array DictEntry) : Prop where
  len : ks.length = es.size
  ent : ∀ (i : Nat) e, es[i]? = some e → ∃ k, ks[i]? = some k ∧ NestedIs h k e.key ∧ k.depth ≤ 8 ∧ e.hash = k.hash w
  nd : ks.Nodup
section
variable {prog : Program} {w : World} {A : Around} {E : Value → Shared → Prop} {s : Shared} {a : Addr} {o : Obj} {es : Array DictEntry} {ep : Nat} {ks : List NestedKey} {k : NestedKey} {u : Value}
theorem Ents.get (N : Ents w s.heap ks es) {i : Nat} (h : ks[i]? = some k) : ∃ e, es[i]? = some e ∧ NestedIs s.heap k e.key ∧ k.depth ≤ 8 ∧ e.hash = k.hash w := by
  have hi : i < es.size := by rw [← N.len]; exact (List.getElem?_eq_some_iff.mp h).1
  obtain ⟨k', h1, h2, h3, h4⟩ := N.ent i es[i] (Array.getElem?_eq_getElem hi)
  rw [h] at h1
  cases h1
  exact ⟨_, Array.getElem?_eq_getElem hi, h2, h3, h4⟩
theorem Ents.one (N : Ents w s.heap ks es) {i j : Nat} (h : ks[i]? = some k) (h' : ks[j]? = some k) : i = j := by
  obtain ⟨hi, e⟩ := List.getElem?_eq_some_iff.mp h
  obtain ⟨hj, e'⟩ := List.getElem?_eq_some_iff.mp h'
  exact (List.getElem_inj N.nd).mp (e.trans e'.symm)
theorem eqBool_key {v : Value} {x y : NestedKey} {Q : Bool → Shared → Prop} (hu : A.units + 8 < cLine) (hx : NestedIs s.heap x u) (hy : NestedIs s.heap y v) (d : x.depth ≤ 8) (h : Q (decide (x = y)) s) : wpAny (model prog w) A (eqBool u v) Q E s :=
  eqAt_key x y A s u v hx hy (by omega) prog w E Q (by rw [← NestedKey.decide_eq]; exact h)
/-- the places of one hash -/
abbrev plcs (es : Array DictEntry) (h : Int) : List Nat := placesWithHash es.size (fun i => es[i]?.map (·.hash)) h
theorem mem_plcs {h : Int} {i : Nat} : i ∈ plcs es h ↔ ∃ e, es[i]? = some e ∧ e.hash = h := by
  unfold plcs placesWithHash
  rw [List.mem_filter, List.mem_range]
  constructor
  · rintro ⟨h1, h2⟩
    dsimp only at h2
    rw [Array.getElem?_eq_getElem h1] at h2
    exact ⟨_, Array.getElem?_eq_getElem h1, by simpa using h2⟩
  · rintro ⟨e, h1, h2⟩
    refine ⟨(Array.getElem?_eq_some_iff.mp h1).1, ?_⟩
    dsimp only
    rw [h1, ← h2]
    simp
theorem nodup_plcs {h : Int} : (plcs es h).Nodup := List.nodup_range.filter _
/-- what a search has to give -/
def Hit (ks : List NestedKey) (k : NestedKey) (r : Option Nat) : Prop := match r with
  | none => k ∉ ks
  | some j => ks[j]? = some k
theorem walkPlain (N : Ents w s.heap ks es) (hu : A.units + 8 < cLine) (ho : s.heap.get? a = some o) (hd : o.data = .dict es ep) (hk : NestedIs s.heap k u) {Q : Option Nat → Shared → Prop} (h : ∀ r, Hit ks k r → Q r s) :
    wpAny (model prog w) A (dictWalkPlain a u (k.hash w) es (plcs es (k.hash w))) Q E s := by
  unfold dictWalkPlain
  refine wpAny_bind ?_
  refine wpAny_forIn_list _ (fun rest b s' => s' = s ∧ b = (none, PUnit.unit) ∧ (∀ i ∈ rest, i ∈ plcs es (k.hash w)) ∧ ∀ i, ks[i]? = some k → i ∈ rest) _ ?_ ?_ _ _ ⟨rfl, rfl, fun _ h => h, fun i hi => ?_⟩
  · rintro i rest b s' ⟨rfl, rfl, h1, h2⟩
    obtain ⟨e, e1, e2⟩ := mem_plcs.mp (h1 i List.mem_cons_self)
    obtain ⟨k', f1, f2, f3, f4⟩ := N.ent i e e1
    rw [e1]
    dsimp only
    rw [if_pos (by simp [e2])]
    refine wpAny_bind (wpAny_dictEpoch ho hd (wpAny_bind (eqBool_key hu f2 hk f3 (wpAny_bind (wpAny_dictEpoch ho hd ?_)))))
    rw [if_neg (by simp)]
    by_cases hkk : k' = k
    · subst hkk
      rw [decide_eq_true rfl, if_pos rfl]
      exact wpAny_bind (wpAny_rule (wpAny_pure (wpAny_pure (h (some i) f1))))
    · rw [decide_eq_false hkk, if_neg Bool.false_ne_true]
      refine wpAny_bind (wpAny_rule (wpAny_pure ⟨rfl, rfl, fun j hj => h1 j (List.mem_cons_of_mem _ hj), fun j hj => ?_⟩))
      rcases List.mem_cons.mp (h2 j hj) with q | q
      · subst q
        rw [f1] at hj
        cases hj
        exact absurd rfl hkk
      · exact q
  · rintro b s' ⟨rfl, rfl, _, h2⟩
    refine wpAny_pure (h none fun hm => ?_)
    obtain ⟨j, hj⟩ := List.getElem?_of_mem hm
    exact absurd (h2 j hj) (by simp)
  · obtain ⟨e, e1, e2, e3, e4⟩ := N.get hi
    exact mem_plcs.mpr ⟨e, e1, e4⟩
theorem quiet_at {Q : Bool → Shared → Prop} (hk : NestedIs s.heap k u) (d : k.depth ≤ 8) (h : Q true s) : wpAny (model prog w) A (eqIsQuiet 8 u) Q E s := quiet_key k u 8 s hk d A E Q h
theorem tellsNot (hk : NestedIs s.heap k u) (d : k.depth ≤ 8) {stored : List Value} (hs : ∀ v ∈ stored, ∃ k', NestedIs s.heap k' v ∧ k'.depth ≤ 8) {Q : Bool → Shared → Prop} (h : Q false s) :
    wpAny (model prog w) A (tableMayTell u stored) Q E s := by
  unfold tableMayTell
  split
  · exact wpAny_pure h
  · refine wpAny_bind (quiet_at hk d ?_)
    rw [if_neg (by decide)]
    refine wpAny_bind ?_
    refine wpAny_forIn_list _ (fun rest r s' => s' = s ∧ r = (none, PUnit.unit) ∧ ∀ v ∈ rest, ∃ k', NestedIs s.heap k' v ∧ k'.depth ≤ 8) _ ?_ ?_ _ _ ⟨rfl, rfl, hs⟩
    · rintro x rest r s' ⟨rfl, rfl, hr⟩
      obtain ⟨k', h1, h2⟩ := hr x List.mem_cons_self
      refine wpAny_bind (quiet_at h1 h2 ?_)
      rw [if_neg (by decide)]
      exact wpAny_pure ⟨rfl, rfl, fun v hv => hr v (List.mem_cons_of_mem _ hv)⟩
    · rintro r s' ⟨rfl, rfl, _⟩
      exact wpAny_pure h
theorem wp_if {α : Type} {M : Model} {c : Prop} [Decidable c] {t e : Sem α} {Q : α → Shared → Prop} (h1 : c → wpAny M A t Q E s) (h2 : ¬ c → wpAny M A e Q E s) : wpAny M A (if c then t else e) Q E s := by
  by_cases h : c
  · rw [if_pos h]; exact h1 h
  · rw [if_neg h]; exact h2 h
theorem text_of {x : Str} {t : Tok} (h : NestedIs s.heap k (.str x t)) : k = .text x := by cases h; rfl
/-- THE SEARCH: whatever the keys are -/
theorem dictFind_any (N : Ents w s.heap ks es) (hu : A.units + 8 < cLine) (ho : s.heap.get? a = some o) (hd : o.data = .dict es ep) (hk : NestedIs s.heap k u) (dk : k.depth ≤ 8) {Q : Option Nat → Shared → Prop} (h : ∀ r, Hit ks k r → Q r s) :
    wpAny (model prog w) A (dictFind a u (k.hash w)) Q E s := by
  -- by value
  have byV : ∀ (x : Str) (t : Tok), u = .str x t → wpAny (model prog w) A (foundByValue a u es x) Q E s := by
    rintro x t rfl
    have ek := text_of hk
    subst ek
    unfold foundByValue
    cases ef : es.findIdx? (·.key.isStr x) with
    | none =>
      refine wpAny_pure (h none fun hm => ?_)
      obtain ⟨j, hj⟩ := List.getElem?_of_mem hm
      obtain ⟨e, e1, e2, _⟩ := N.get hj
      have hin : e ∈ es := Array.mem_of_getElem? e1
      have q := Array.findIdx?_eq_none_iff.mp ef e hin
      generalize e.key = kv at e2 q
      cases e2
      simp [Value.isStr] at q
    | some i =>
      have hi := Array.findIdx?_eq_some_iff_getElem.mp ef
      obtain ⟨hlt, hx, _⟩ := hi
      have e1 : es[i]? = some es[i] := Array.getElem?_eq_getElem hlt
      obtain ⟨k', f1, f2, f3, f4⟩ := N.ent i _ e1
      have ek : k' = .text x := by
        generalize es[i].key = kv at f2 hx
        cases kv with
        | str y t' =>
          have := text_of f2
          simp [Value.isStr] at hx
          rw [this, hx]
        | _ => simp [Value.isStr] at hx
      subst ek
      dsimp only
      rw [e1]
      dsimp only
      refine wpAny_bind (wpAny_dictEpoch ho hd (wpAny_bind (eqBool_key hu f2 hk f3 (wpAny_bind (wpAny_dictEpoch ho hd ?_)))))
      rw [if_neg (by simp), decide_eq_true rfl, if_pos rfl]
      exact wpAny_bind (wpAny_rule (wpAny_pure (h (some i) f1)))
  have stAll : ∀ v ∈ (plcs es (k.hash w)).filterMap (fun i => es[i]?.map (·.key)), ∃ k', NestedIs s.heap k' v ∧ k'.depth ≤ 8 := by
    intro v hv
    obtain ⟨i, _, hi⟩ := List.mem_filterMap.mp hv
    cases e : es[i]? with
    | none => rw [e] at hi; cases hi
    | some en =>
      rw [e] at hi
      cases hi
      obtain ⟨k', _, f2, f3, _⟩ := N.ent i en e
      exact ⟨k', f2, f3⟩
  have hin : ∀ i, ks[i]? = some k → i ∈ plcs es (k.hash w) := fun i hi => by
    obtain ⟨e, e1, e2, e3, e4⟩ := N.get hi
    exact mem_plcs.mpr ⟨e, e1, e4⟩
  have noAny : ¬ (es.any fun e => e.key == u && e.hash != k.hash w) = true := by
    intro hc
    obtain ⟨i, hi, hx⟩ := Array.any_eq_true.mp hc
    obtain ⟨k', f1, f2, f3, f4⟩ := N.ent i _ (Array.getElem?_eq_getElem hi)
    simp only [Bool.and_eq_true, beq_iff_eq, bne_iff_ne, ne_eq] at hx
    rw [hx.1] at f2
    have := NestedIs.inj _ _ _ f2 hk
    subst this
    exact hx.2 f4
  unfold dictFind
  try with_reducible refine wpAny_holding ?_
  refine wpAny_bind (wpAny_dictEntries ho hd ?_)
  have hk0 := hk
  obtain ⟨isK, hisK⟩ : ∃ isK : Nat → Prop, ∀ i, isK i ↔ ks[i]? = some k := ⟨fun i => ks[i]? = some k, fun _ => Iff.rfl⟩
  obtain ⟨isP, hisP⟩ : ∃ isP : Nat → Prop, ∀ i, isP i ↔ i ∈ plcs es (k.hash w) := ⟨fun i => i ∈ plcs es (k.hash w), fun _ => Iff.rfl⟩
  have nd0 : (plcs es (k.hash w)).Nodup := nodup_plcs
  cases hk
  all_goals dsimp only
  case' text x t => refine wp_if (fun _ => byV x t rfl) fun _ => ?_
  case' text => refine wp_if (fun _ => walkPlain N hu ho hd hk0 h) fun _ => ?_
  case' tup b ob vs m ks' g1 g2 g3 g4 => rw [if_neg (by simp [carriedByValue]), if_neg noAny]
  case' none => refine wp_if (fun _ => walkPlain N hu ho hd hk0 h) fun _ => ?_
  case' bool b i hb => refine wp_if (fun _ => walkPlain N hu ho hd hk0 h) fun _ => ?_
  case' int i t => refine wp_if (fun _ => walkPlain N hu ho hd hk0 h) fun _ => ?_
  all_goals
    (refine wp_if (fun _ => wpAny_bind (wpAny_pure ?_)) fun _ => wpAny_bind (tellsNot hk0 dk stAll ?_)) <;>
    (rw [if_neg (by simp)]
     refine wpAny_bind ?_
     refine wpAny_forIn_list _ (fun rest b s' => s' = s ∧ ∃ hit, b = (none, hit) ∧ (∀ i ∈ rest, isP i) ∧ rest.Nodup ∧ ((hit = none ∧ ∀ i, isK i → i ∈ rest) ∨ ∃ j, hit = some j ∧ isK j ∧ j ∉ rest)) _ ?_ ?_ _ _ ⟨rfl, none, rfl, fun i h => (hisP i).mpr h, nd0, .inl ⟨rfl, fun i hi => hin i ((hisK i).mp hi)⟩⟩
     · rintro i rest b s' ⟨rfl, hit, rfl, h1, h2, h3⟩
       obtain ⟨e, e1, e2⟩ := mem_plcs.mp ((hisP i).mp (h1 i List.mem_cons_self))
       obtain ⟨k', f1, f2, f3, f4⟩ := N.ent i e e1
       obtain ⟨m1, m2⟩ := List.nodup_cons.mp h2
       rw [e1]
       dsimp only
       rw [if_pos (by simp [e2])]
       refine wpAny_bind (wpAny_dictEpoch ho hd (wpAny_bind (eqBool_key hu f2 hk0 f3 (wpAny_bind (wpAny_dictEpoch ho hd ?_)))))
       rw [if_neg (by simp)]
       refine wp_if (fun hc => ?_) fun hc => ?_
       · have hkk := of_decide_eq_true hc
         subst hkk
         rcases h3 with ⟨rfl, h3⟩ | ⟨j, rfl, h4, h5⟩
         · rw [if_neg (by simp)]
           refine wpAny_bind (wpAny_rule ?_)
           refine wp_if (fun _ => wpAny_pure (wpAny_pure (h (some i) f1))) fun _ => wpAny_pure ⟨rfl, some i, rfl, fun j hj => h1 j (List.mem_cons_of_mem _ hj), m2, .inr ⟨i, rfl, (hisK i).mpr f1, m1⟩⟩
         · exact absurd (by rw [N.one ((hisK j).mp h4) f1]; exact List.mem_cons_self) h5
       · have hkk : ¬ k' = _ := fun q => hc (decide_eq_true q)
         refine wpAny_bind (wpAny_rule ?_)
         rw [if_neg (by simp)]
         refine wpAny_pure ⟨rfl, hit, rfl, fun j hj => h1 j (List.mem_cons_of_mem _ hj), m2, ?_⟩
         rcases h3 with ⟨rfl, h3⟩ | ⟨j, rfl, h4, h5⟩
         · refine .inl ⟨rfl, fun j hj => (List.mem_cons.mp (h3 j hj)).resolve_left fun q => ?_⟩
           subst q
           have hj' := (hisK j).mp hj
           rw [f1] at hj'
           exact hkk (Option.some.inj hj')
         · exact .inr ⟨j, rfl, h4, fun q => h5 (List.mem_cons_of_mem _ q)⟩
     · rintro b s' ⟨rfl, hit, rfl, _, _, h3⟩
       rcases h3 with ⟨rfl, h3⟩ | ⟨j, rfl, h4, _⟩
       · refine wpAny_pure (h none fun hm => ?_)
         obtain ⟨j, hj⟩ := List.getElem?_of_mem hm
         exact absurd (h3 j ((hisK j).mpr hj)) (by simp)
       · exact wpAny_pure (h (some j) ((hisK j).mp h4)))
abbrev dobj (es : Array DictEntry) (ep : Nat) : Obj := { cls := .type "dict", data := .dict es ep }
theorem dictGet_any (N : Ents w s.heap ks es) (hu : A.units + 8 < cLine) (ho : s.heap.get? a = some (dobj es ep)) (hk : NestedIs s.heap k u) (dk : k.depth ≤ 8) {Q : Option Value → Shared → Prop}
    (h : ∀ r, Hit ks k r → Q (r.bind fun j => es[j]?.map (·.val)) { s with toks := s.toks + k.draws }) : wpAny (model prog w) A (dictGet a u) Q E s := by
  unfold dictGet
  try with_reducible refine wpAny_holding ?_
  refine wpAny_bind (pyHash_key k u A s _ hk (by omega) ?_)
  have N' : Ents w ({ s with toks := s.toks + k.draws } : Shared).heap ks es := N
  refine wpAny_bind (dictFind_any (s := { s with toks := s.toks + k.draws }) N' hu ho rfl hk dk fun r hr => ?_)
  cases r with
  | none => exact wpAny_pure (h none hr)
  | some j =>
    refine wpAny_bind (wpAny_dictEntries (s := { s with toks := s.toks + k.draws }) ho rfl ?_)
    exact wpAny_pure (h (some j) hr)
theorem dobj_type (ho : s.heap.get? a = some (dobj es ep)) : s.TypeIs (.ref a) "dict" := ⟨_, ho, rfl⟩
/-- y in d -/
theorem dcontains (N : Ents w s.heap ks es) (hu : A.units + 9 < cLine) (hs : (a == sysModules) = false) (ho : s.heap.get? a = some (dobj es ep)) (hk : NestedIs s.heap k u) (dk : k.depth ≤ 8) {Q : Bool → Shared → Prop}
    (h : ∀ t, Q (decide (k ∈ ks)) { s with toks := t }) : wpAny (model prog w) A (contains (.ref a) u) Q E s := by
  have T := dobj_type ho
  refine wpAny_contains_slot T F.slot_dict_contains ?_
  refine call_meetsIn F.slot_dict_contains T F.entry_dict_contains (F.args_dict_contains_2 _ _) (S := fun A' R s' => A' = A ∧ s' = s ∧ ∀ t, R (.ok (.ret (.bool (decide (k ∈ ks))))) { s with toks := t }) (fun A' R s' hS => ?_) ⟨rfl, rfl, fun t => wpAny_truthy_bool (h t)⟩
  obtain ⟨rfl, rfl, hq⟩ := hS
  show wpAny _ _ (dictGet a u >>= _) _ _ _
  refine wpAny_bind (dictGet_any N (by simp only [Around.in1_units]; omega) ho hk dk fun r hr => ?_)
  cases r with
  | none =>
    rw [decide_eq_false hr] at hq
    show wpAny _ _ (Builtin.Dict.pendingKey? a u >>= _) _ _ _
    exact wpAny_bind (wpAny_pendingKey_other hs (wpAny_pure (hq _)))
  | some j =>
    rw [decide_eq_true (List.mem_of_getElem? hr)] at hq
    obtain ⟨e, e1, _⟩ := N.get hr
    simp only [Option.bind_some, e1, Option.map_some]
    show wpAny _ _ (ret (.bool true)) _ _ _
    exact wpAny_pure (hq _)
/-- d[k], where it is there -/
theorem dgetItem {j : Nat} {e : DictEntry} (N : Ents w s.heap ks es) (hu : A.units + 9 < cLine) (ho : s.heap.get? a = some (dobj es ep)) (hk : NestedIs s.heap k u) (dk : k.depth ≤ 8) (hj : ks[j]? = some k) (he : es[j]? = some e) {Q : Value → Shared → Prop}
    (h : ∀ t, Q e.val { s with toks := t }) : wpAny (model prog w) A (getItem (.ref a) u) Q E s := by
  have T := dobj_type ho
  refine wpAny_getItem_slot T rfl F.slot_dict_getitem ?_
  refine call_meetsIn F.slot_dict_getitem T F.entry_dict_getitem (F.args_dict_getitem_2 _ _) (S := fun A' R s' => A' = A ∧ s' = s ∧ ∀ t, R (.ok (.ret e.val)) { s with toks := t }) (fun A' R s' hS => ?_) ⟨rfl, rfl, h⟩
  obtain ⟨rfl, rfl, hq⟩ := hS
  show wpAny _ _ (dictGet a u >>= _) _ _ _
  refine wpAny_bind (dictGet_any N (by simp only [Around.in1_units]; omega) ho hk dk fun r hr => ?_)
  cases r with
  | none => exact absurd (List.mem_of_getElem? hj) hr
  | some i =>
    have := N.one hr hj
    subst this
    simp only [Option.bind_some, he, Option.map_some]
    exact wpAny_pure (hq _)
/-- d.get(k), d.get(k, x) -/
theorem dget1 (N : Ents w s.heap ks es) (hu : A.units + 9 < cLine) (hs : (a == sysModules) = false) (ho : s.heap.get? a = some (dobj es ep)) (hk : NestedIs s.heap k u) (dk : k.depth ≤ 8) {Q : Value → Shared → Prop}
    (h : ∀ r t, Hit ks k r → Q ((r.bind fun j => es[j]?.map (·.val)).getD .none) { s with toks := t }) : wpAny (model prog w) A (call (.builtin "dict.get") [.ref a, u]) Q E s := by
  have T := dobj_type ho
  refine call_meetsIn F.slot_dict_get T F.entry_dict_get (F.args_dict_get_2 _ _) (S := fun A' R s' => A' = A ∧ s' = s ∧ ∀ r t, Hit ks k r → R (.ok (.ret ((r.bind fun j => es[j]?.map (·.val)).getD .none))) { s with toks := t }) (fun A' R s' hS => ?_) ⟨rfl, rfl, h⟩
  obtain ⟨rfl, rfl, hq⟩ := hS
  show wpAny _ _ (dictGet a u >>= _) _ _ _
  refine wpAny_bind (dictGet_any N (by simp only [Around.in1_units]; omega) ho hk dk fun r hr => ?_)
  have hq' := fun t => hq r t hr
  cases hr' : (r.bind fun j => es[j]?.map (·.val)) with
  | none =>
    rw [hr'] at hq'
    show wpAny _ _ (Builtin.Dict.missed a u >>= _) _ _ _
    unfold Builtin.Dict.missed
    rw [if_neg (by rw [hs]; exact Bool.false_ne_true)]
    exact wpAny_bind (wpAny_pure (wpAny_pure (hq' _)))
  | some v =>
    rw [hr'] at hq'
    exact wpAny_pure (hq' _)
theorem dget2 {x : Value} (N : Ents w s.heap ks es) (hu : A.units + 9 < cLine) (hs : (a == sysModules) = false) (ho : s.heap.get? a = some (dobj es ep)) (hk : NestedIs s.heap k u) (dk : k.depth ≤ 8) {Q : Value → Shared → Prop}
    (h : ∀ r t, Hit ks k r → Q ((r.bind fun j => es[j]?.map (·.val)).getD x) { s with toks := t }) : wpAny (model prog w) A (call (.builtin "dict.get") [.ref a, u, x]) Q E s := by
  have T := dobj_type ho
  refine call_meetsIn F.slot_dict_get T F.entry_dict_get (F.args_dict_get_3 _ _ _) (S := fun A' R s' => A' = A ∧ s' = s ∧ ∀ r t, Hit ks k r → R (.ok (.ret ((r.bind fun j => es[j]?.map (·.val)).getD x))) { s with toks := t }) (fun A' R s' hS => ?_) ⟨rfl, rfl, h⟩
  obtain ⟨rfl, rfl, hq⟩ := hS
  show wpAny _ _ (dictGet a u >>= _) _ _ _
  refine wpAny_bind (dictGet_any N (by simp only [Around.in1_units]; omega) ho hk dk fun r hr => ?_)
  have hq' := fun t => hq r t hr
  cases hr' : (r.bind fun j => es[j]?.map (·.val)) with
  | none =>
    rw [hr'] at hq'
    show wpAny _ _ (Builtin.Dict.missed a u >>= _) _ _ _
    unfold Builtin.Dict.missed
    rw [if_neg (by rw [hs]; exact Bool.false_ne_true)]
    exact wpAny_bind (wpAny_pure (wpAny_pure (hq' _)))
  | some v =>
    rw [hr'] at hq'
    exact wpAny_pure (hq' _)
end
end DP
set_option Elab.async false
set_option linter.all false
set_option maxRecDepth 100000
/-! DP, part 12: dicts that change. -/
namespace DP
open PySem PySem.Spec PyProof.Rows L2
open Sem (wp)
/-- the entries behind d[k] = v -/
def putE (es : List DictEntry) (r : Option Nat) (h : Int) (u v : Value) : List DictEntry := match r with
  | none => es ++ [⟨h, u, v⟩]
  | some j => es.modify j fun e => { e with val := v }
section
variable {prog : Program} {w : World} {A : Around} {E : Value → Shared → Prop} {s : Shared} {a : Addr} {o : Obj} {es : Array DictEntry} {ep : Nat} {ks : List NestedKey} {k : NestedKey} {u v : Value}
theorem dSetHashed (N : Ents w s.heap ks es) (hu : A.units + 8 < cLine) (ho : s.heap.get? a = some (dobj es ep)) (hz : es.size ≤ sizeLine) (hk : NestedIs s.heap k u) (dk : k.depth ≤ 8) {Q : Unit → Shared → Prop}
    (h : ∀ h' es' ep' r, Hit ks k r → h'.get? a = some (dobj es' ep') → Heap.SameBut a s.heap h' → es'.toList = putE es.toList r (k.hash w) u v → Q () { s with heap := h' }) :
    wpAny (model prog w) A (dictSetHashed a u (k.hash w) v) Q E s := by
  unfold dictSetHashed
  try with_reducible refine wpAny_holding ?_
  refine wpAny_bind (dictFind_any N hu ho rfl hk dk fun r hr => ?_)
  cases r with
  | none =>
    refine wpAny_bind (wpAny_rule (wpAny_updateDictKeys (hz := hz) ho rfl (h _ _ (ep + 1) none hr (Heap.get?_update_self _ ho rfl) (Heap.SameBut.update ..) ?_)))
    simp [putE]
  | some j =>
    refine wpAny_bind (wpAny_rule (wpAny_bind (wpAny_updateDict ho rfl (wpAny_point (h _ _ ep (some j) hr (Heap.get?_update_self _ ho rfl) (Heap.SameBut.update ..) ?_)))))
    obtain ⟨l⟩ := es
    simp [putE]
/-- d[k] = v -/
theorem dset (N : Ents w s.heap ks es) (hu : A.units + 9 < cLine) (ho : s.heap.get? a = some (dobj es ep)) (hz : es.size ≤ sizeLine) (hk : NestedIs s.heap k u) (dk : k.depth ≤ 8) {Q : Unit → Shared → Prop}
    (h : ∀ h' es' ep' r t, Hit ks k r → h'.get? a = some (dobj es' ep') → Heap.SameBut a s.heap h' → es'.toList = putE es.toList r (k.hash w) u v → Q () { s with heap := h', toks := t }) :
    wpAny (model prog w) A (setItem (.ref a) u v) Q E s := by
  have T := dobj_type ho
  unfold setItem
  try with_reducible refine wpAny_holding ?_
  refine wpAny_bind (wpAny_sequenceKey T (by decide) ?_)
  refine wpAny_bind (wpAny_callSpecial?_slot (name := Str.ofString "__setitem__") T F.slot_dict_setitem
    (wpAny_call_entry F.slot_dict_setitem T F.entry_dict_setitem ?_ (F.args_dict_setitem_3 _ _ _)))
  show wpAny _ _ (Builtin.Dict.notOrdered "__setitem__" ⟨[.ref a, u, v], []⟩ >>= _) _ _ s
  refine wpAny_bind (wpAny_notOrdered_dict T ?_)
  show wpAny _ _ (dictSet a u v >>= _) _ _ s
  refine wpAny_bind ?_
  unfold dictSet
  try with_reducible refine wpAny_holding ?_
  have hu1 : A.in1.units + 8 < cLine := by simp only [Around.in1_units]; omega
  refine wpAny_bind (pyHash_key k u _ s _ hk (by omega) ?_)
  exact dSetHashed (s := { s with toks := s.toks + k.draws }) N hu1 ho hz hk dk fun h' es' ep' r hr e1 e2 e3 => wpAny_pure ⟨.none, rfl, wpAny_pure (h h' es' ep' r _ hr e1 e2 e3)⟩
end
end DP
set_option Elab.async false
set_option linter.all false
set_option maxRecDepth 100000
/-! DP, part 13: calls where nothing is being shown (for repr): FnG; the law's own call. -/
namespace DP
open PySem PySem.Spec PyProof.Rows L2

/-- what a def keeps, called where no repr is under way -/
structure FnG (P : Program) (w : World) (K : PySem.W.Frag) (mg : Str → Option Value) (base : Heap) (k : Nat) (f : Addr) (fd : FuncData) (ps : List Str) (sp : Sp) : Prop where
  len : ∀ vs H Q E, sp vs H Q E → vs.length = ps.length
  go : ∀ (A : Around) (outer : List Env) (s : Shared) (H : Hp) (args : Args) (us : List Value) (vs : List V) (Q : VK) (E : XK), Room k A → A.guards = some [] → Env0 P w K mg base A outer s H →
    BindsTo s fd args (ps.zip us) → Vals vs us → sp vs H Q E → codeAny (model P w) A (.call (.ref f) args) (CR (L2.CX P w) outer P w H s Q E) s
section
variable {P : Program} {w : World} {K : PySem.W.Frag} {mg : Str → Option Value} {base : Heap} {k : Nat} {f : Addr} {fd : FuncData} {ps N : List Str} {sp : Sp}
theorem FnG.up {j : Nat} (F : FnG P w K mg base j f fd ps sp) (h : j ≤ k) : FnG P w K mg base k f fd ps sp :=
  ⟨F.len, fun A outer s H args us vs Q E hr => F.go A outer s H args us vs Q E (hr.mono h)⟩
/-- a def of the text, by its body -/
theorem fnG_of {x qual : Str} {st : Stmt} (Fn : Fun K x qual st f fd) (S : FnScope N ps (defScope st)) (len : ∀ vs H Q E, sp vs H Q E → vs.length = ps.length)
    (body : ∀ (cdv : Value) (A : Around) (outer : List Env) (s : Shared) (H : Hp) (vs : List V) (Q : VK) (E : XK), Room k (A.deeper (envOfC qual (defScope st) s.heap.objs.size f cdv)) → A.guards = some [] → sp vs H Q E →
      ∃ t, PSs (cxOf (L2.CX P w) P w K mg base N qual (defScope st) f cdv A outer s H E) (defBody st) t ∧ t { nx := fun _ H1 => Q .non H1, rt := Q } (L2.start N vs) H) : FnG P w K mg base (k + 1) f fd ps sp := by
  obtain ⟨oc, od, kV, doc, pm, an, cdv, ct, osl, rfl, lk, hcd⟩ := Fn.ex
  refine ⟨len, ?_⟩
  intro A outer s H args us vs Q E room quiet e0 binds rel hsp
  have kin : K.In s.heap := e0.mod.kin.keeps fun b o z => (e0.bs b o z).1
  have cells : ∀ y ∈ ps.zip us, (defScope st).names.lookup y.1 = some .local ∨ ((defScope st).names.lookup y.1 = some .cell ∧ ((cellsFrom (s.heap.objs.size + 1) (defScope st).names []).lookup y.1).isSome = true) := by
    rintro ⟨nm, u⟩ hy
    refine (S.par nm (List.of_mem_zip hy).1).imp id fun z => ⟨z, PySem.W.cellsFrom_some _ _ _ (.inl z)⟩
  refine codeAny_call_function room.depth (kin _ _ lk) rfl S.co S.gen rfl (PySem.W.codeRec_of kin hcd) (binds _ _ _ _ ?_)
  refine wpAny_newFunctionEnv_cells S.kind cells fun env he s1 x => ?_
  subst he
  refine ⟨(e0.mod.nolimit.keeps fun b o z => (e0.bs b o z).1).keeps x.toInCall.keep, codeAny_func ?_⟩
  obtain ⟨t, ht, hq⟩ := body cdv A outer s H vs Q E (room.deeper _) quiet hsp
  have I : Inv (cxOf (L2.CX P w) P w K mg base N qual (defScope st) f cdv A outer s H E) [] (L2.start N vs) H s1 := inv_start S room.hd e0 (len _ _ _ _ hsp) rel x
  refine wpAny_mono (ht.run [] s1 (L2.start N vs) H _ I hq) ?_ fun _ _ z => z
  intro fl s' hs
  cases fl with
  | next => obtain ⟨σ1, H1, J, q⟩ := hs; exact (⟨V.non, H1, J.os, J.bare, J.base, J.hok, rfl, q⟩ : CE outer P w H s Q Value.none s')
  | ret u => obtain ⟨v, σ1, H1, J, rv, q⟩ := hs; exact (⟨v, H1, J.os, J.bare, J.base, J.hok, rv, q⟩ : CE outer P w H s Q u s')
  | brk => obtain ⟨_, _, _, q⟩ := hs; exact q.elim
  | cont => obtain ⟨_, _, _, q⟩ := hs; exact q.elim
/-- A DEF that reckons F -/
theorem fnG_pure {x qual : Str} {st : Stmt} {F : FD} {B : SF} (Fn : Fun K x qual st f fd) (S : FnScope N ps (defScope st)) (hF : ∀ ds, ds.length = ps.length → F ds = runB N.length B ds)
    (body : ∀ (cdv : Value) (A : Around) (outer : List Env) (s : Shared) (H : Hp) (E : XK), Room k (A.deeper (envOfC qual (defScope st) s.heap.objs.size f cdv)) → A.guards = some [] →
      EB (cxOf (L2.CX P w) P w K mg base N qual (defScope st) f cdv A outer s H E) (fun cls d _ H => E cls d H) (defBody st) B) : FnG P w K mg base (k + 1) f fd ps (spF K w mg ps.length F) := by
  refine fnG_of Fn S (fun vs H Q E h => ?_) fun cdv A outer s H vs Q E hr hg h => ⟨_, body cdv A outer s H E hr hg, ?_⟩
  · obtain ⟨W, ds, _, r, hl, _⟩ := h
    exact r.len.trans hl
  · obtain ⟨W, ds, sm, r, hl, h⟩ := h
    refine ⟨fun _ => 0, W, _, _, SR.start sm r, ?_⟩
    rw [hF ds hl] at h
    unfold runB at h
    have ex : ∀ {W' H' : Hp} {A' : List (List Addr)}, Same W' H' → Fr W H (ownd (List.replicate (L2.start N vs).length [])) W' H' (ownd A') → Ex W H W' H' := fun s F => F.ex own_none s
    cases eb : B (ds.map .fz ++ List.replicate (N.length - ds.length) .no) with
    | bad => rw [eb] at h; exact h.elim
    | exc c d e =>
      rw [eb] at h
      exact fun C W' H' A' σ' dx v g S' F' x r' => h C W' H' dx v g (ex S'.sub F') x r'
    | ok q =>
      obtain ⟨fl, env'⟩ := q
      rw [eb] at h
      cases fl with
      | nx => exact fun W' H' A' σ' S' F' => h W' H' _ (ex S'.sub F') rfl
      | rt d => exact fun W' H' A' σ' S' F' v rv => h W' H' v (ex S'.sub F') rv
      | bk => exact h.elim
      | ct => exact h.elim
end
section
variable {X : Cx} {Wx : WX} {k n : Nat} {f : Addr} {fd : FuncData} {ps : List Str} {sp : Sp} {F : FD} {x : Str} {p pos : Pos} {e : Expr} {es : List Expr} {g : AF} {t : TA}
theorem pe_callG (G : FnG X.prog X.w X.K X.mg X.base k f fd ps sp) (hr : Room k X.A) (hq : X.A.guards = some []) (hg : Gl X x) (hm : X.mg x = some (.ref f)) (hk : PySem.W.keepIn X.K (.ref f) = true) (hb : Binds X.K fd ps [])
    {E : L2.St → XK} (hx : ∀ σ, PassesAt (L2.CX X.prog X.w) X σ (E σ)) (ha : PA X (e :: es) t) (hdb : (x == ("__debug__" : Str)) = false := by decide) (he : starEach (e :: es) X.env = (false, eval e X.env) :: starEach es X.env := by rfl) (hpl : (backTo pos (starEach es X.env)).any (·.1) = false := by rfl) :
    PE X (.Call (.Name x p) (e :: es) [] pos) (tCallSD sp [] E t) := by
  refine ⟨fun pins s σ H Q I h => ?_⟩
  refine wpAny_Call_Name_kw (ld_glob I hg hm ?_ hdb)
  refine PySem.W.callWith_K (h₀ := X.base) I.ok.mod.kin hk (thn (ha.run pos pins s σ H _ I h) fun us s1 ⟨vs, H1, I1, r, q⟩ => ⟨I1.kIn, ?_⟩) he hpl
  have q' : sp vs H1 Q (E σ) := by rw [← List.append_nil vs]; exact q
  have hl : us.length = ps.length := r.length.symm.trans (G.len _ _ _ _ q')
  have hb' := hb s1 us I1.kIn (by rw [List.append_nil]; exact hl)
  rw [List.append_nil] at hb'
  refine wpAny_call (codeAny_mono (G.go X.A X.stack s1 H1 ⟨us, []⟩ us vs Q (E σ) hr hq I1.env0 hb' r q') ?_)
  intro z s2 hz
  cases z with
  | error y => exact hx σ pins H1 s1 y s2 I1 hz
  | ok fl =>
    cases fl with
    | ret u => exact I1.after hz
    | next => exact False.elim hz
    | brk => exact False.elim hz
    | cont => exact False.elim hz
theorem ex_callG (G : FnG X.prog X.w X.K X.mg X.base k f fd ps (spF X.K X.w X.mg n F)) (hr : Room k X.A) (hq : X.A.guards = some []) (hg : Gl X x) (hm : X.mg x = some (.ref f)) (hk : PySem.W.keepIn X.K (.ref f) = true) (hb : Binds X.K fd ps [])
    (tk : Takes X Wx) (ha : EA X Wx (e :: es) g) (hdb : (x == ("__debug__" : Str)) = false := by decide) (he : starEach (e :: es) X.env = (false, eval e X.env) :: starEach es X.env := by rfl) (hpl : (backTo pos (starEach es X.env)).any (·.1) = false := by rfl) :
    EX X Wx (.Call (.Name x p) (e :: es) [] pos) (xCall n F g) := by
  refine PE.wk (pe_callG (E := fun σ cls d H => Wx cls d σ H) G hr hq hg hm hk hb (fun σ => passAt tk σ) ha hdb he hpl) ?_
  rintro σ H Q ⟨ρ, W, env, A, S, h⟩
  refine tG_then S h fun ds W1 H1 env1 A1 vs S1 F1 r1 h1 => ?_
  by_cases hn : ds.length = n
  · simp only [if_pos hn] at h1
    rw [List.append_nil]
    refine ⟨W1, ds, S1.sub, r1, hn, ?_⟩
    cases eF : F ds with
    | bad => rw [eF] at h1; exact h1.elim
    | ok d =>
      rw [eF] at h1
      exact fun W' H' v ex r => h1 W' H' A1 v (S1.ex ex) (ex.fr _) r
    | exc c d e' =>
      rw [eF] at h1
      exact fun C W' H' dx v g ex hx r => h1 C W' H' A1 dx v g (S1.ex ex) (ex.fr _) hx r
  · simp only [if_neg hn] at h1
    exact h1.elim
end
end DP
set_option Elab.async false
set_option linter.all false
set_option maxRecDepth 100000
/-! DP, part 14: the script; one's own lists, changed. -/
namespace DP
open PySem PySem.Spec PyProof.Rows L2

/-! ### the script -/
def xLenS (i : Nat) : XF := fun env => match env[i]? with
  | some (.sc ns) => .ok (.int ns.length, env)
  | _ => .bad
def xAtS (i : Nat) (f : XF) : XF := fun env => match env[i]? with
  | some (.sc ns) => (f env).bind fun r => match r.1 with
    | .int k => liftO ((atI ns k).map .int) r.2
    | _ => .bad
  | _ => .bad
theorem atI_map {α β : Type} (f : α → β) (xs : List α) (k : Int) : atI (xs.map f) k = (atI xs k).map f := by
  unfold atI
  rw [List.length_map]
  cases ixN xs.length k with
  | none => rfl
  | some j => simp
section
variable {X : Cx} {Wx : WX} {i : Nat} {x : Str} {p pos p2 : Pos} {e : Expr} {es : List Expr} {f : XF}
theorem ex_lenS (h : PE X (.Name x p) (tVar i)) (hg : Gl X "len") (hm : X.mg "len" = none) : EX X Wx (.Call (.Name "len" p2) [.Name x p] [] pos) (xLenS i) := by
  refine PE.wk (pe_callB call_len_seq hg hm PySem.boot_len (pa_cons h pa_nil)) ?_
  rintro σ H Q ⟨ρ, W, env, A, S, h⟩
  unfold xLenS at h
  cases e : env[i]? with
  | none => rw [e] at h; exact h.elim
  | some sl =>
    rw [e] at h
    obtain ⟨v, l, h1, h2, h3⟩ := S.at e
    cases sl with
    | sc ns =>
      obtain ⟨_, a, rfl, q⟩ := h3
      refine ⟨.ref a, h1, a, _, rfl, .inl (Same.sql S.sub q), ?_⟩
      rw [List.length_map]
      exact h W H A _ S (Fr.refl _ _ _) rfl
    | _ => exact h.elim
theorem ex_atS (h : PE X (.Name x p) (tVar i)) (hf : EX X Wx e f) (hs : PlainIx e) : EX X Wx (.Subscript (.Name x p) e pos) (xAtS i f) := by
  refine PE.wk (pe_ix ix_list h hf hs) ?_
  rintro σ H Q ⟨ρ, W, env, A, S, h⟩
  unfold xAtS at h
  cases e : env[i]? with
  | none => rw [e] at h; exact h.elim
  | some sl =>
    rw [e] at h
    obtain ⟨v, l, h1, h2, h3⟩ := S.at e
    cases sl with
    | sc ns =>
      obtain ⟨_, a, rfl, q⟩ := h3
      refine ⟨.ref a, h1, tG_then S h fun d W1 H1 env1 A1 u S1 F1 r1 h4 => ?_⟩
      cases d with
      | int k =>
        simp only [Rep] at r1
        subst r1
        simp only at h4
        cases ek : atI ns k with
        | none => rw [ek] at h4; exact h4.elim
        | some n =>
          rw [ek] at h4
          refine ⟨a, _, k, .int n, rfl, rfl, Same.sql S1.sub (Same.sql F1.ext q), by rw [atI_map, ek]; rfl, h4 W1 H1 A1 _ S1 (Fr.refl _ _ _) rfl⟩
      | _ => exact h4.elim
    | _ => exact h.elim
end

/-! ### one's own containers, changed -/
theorem SR.mut {K : PySem.W.Frag} {w : World} {ρ : Nat → Addr} {W H : Hp} {env : Ev} {σ : L2.St} {A : List (List Addr)} (S : SR K w ρ W H env σ A) {i : Nat} {t : Option Nat} {c c' : D} {p : Addr} {o : HO} (hi : env[i]? = some (.ow t c)) (hp : σ[i]? = some (some (.ref p)))
    (ho : Own K w W (upd H p o) c' p) : SR K w ρ W (upd H p o) (env.set i (.ow t c')) σ A ∧ Fr W H (ownd A) W (upd H p o) (ownd A) := by
  obtain ⟨v, l, h1, h2, h3⟩ := S.at hi
  obtain ⟨p', rfl, e3, q1, q2, q3⟩ := h3
  rw [hp] at h1
  have ep : p' = p := by cases h1; cases e3; rfl
  subst ep
  have sub : Same W (upd H p' o) := fun b u q => by rw [upd_ne (ne_of_none q q1)]; exact S.sub b u q
  refine ⟨⟨sub, by simp [S.le], S.la, fun j s v l j1 j2 j3 => ?_, S.inj⟩, Same.refl _, fun b u hb hn => ?_, fun b h1 h2 => absurd h2 h1, fun b hb => .inl hb⟩
  · rcases at_set j1 with ⟨e1, e2⟩ | ⟨e1, e2⟩
    · subst e1 e2
      rw [hp] at j2
      cases j2
      rw [h2] at j3
      cases j3
      exact ⟨p', rfl, rfl, q1, ho, q3⟩
    · refine (S.slot j s v l e2 j2 j3).keep (Same.refl _) fun b hb => ?_
      have hbp : b ≠ p' := fun z => e1 (S.inj j i l [p'] b j3 h2 hb (by simp [z]))
      exact ⟨upd_ne hbp, (S.own ⟨j, l, j3, hb⟩).1⟩
  · have hbp : b ≠ p' := fun z => hn ⟨i, [p'], h2, by simp [z]⟩
    rw [upd_ne hbp]
    exact hb
def isLst : D → Bool
  | .list _ => true
  | _ => false
/-- x.m(..), x one's own list: op gives what it returns, and the list behind it -/
def xMutL (i : Nat) (op : List D → List D → Option (D × List D)) (g : AF) : XF := fun env => match env[i]? with
  | some (.ow _ (.list _)) => (g env).bind fun r => match r.2[i]? with
    | some (.ow t (.list ds)) => (match op ds r.1 with
      | some (z, ds') => .ok (z, r.2.set i (.ow t (.list ds')))
      | none => .bad)
    | _ => .bad
  | _ => .bad
/-- what a list's method must keep for xMutL -/
def MutR (X : Cx) (r : V → List V → Hp → VK → Prop) (op : List D → List D → Option (D × List D)) : Prop :=
  ∀ (W H : Hp) (p : Addr) (ds as : List D) (vs us : List V) (z : D) (ds' : List D) (Q : VK), Same W H → W p = none → H p = some (.lst vs) → RepL X.K X.w W ds vs → RepL X.K X.w W as us → op ds as = some (z, ds') →
    (∀ vs' v, RepL X.K X.w W ds' vs' → Rep X.K X.w W z v → Q v (upd H p (.lst vs'))) → r (.ref p) us H Q
def opApp (ds as : List D) : Option (D × List D) := match as with
  | [d] => if ds.length < sizeLine then some (.none, ds ++ [d]) else none
  | _ => none
def opExt (ds as : List D) : Option (D × List D) := match as with
  | [.list es] => if ds.length + es.length ≤ sizeLine then some (.none, ds ++ es) else none
  | _ => none
section
variable {X : Cx} {Wx : WX}
theorem mut_app : MutR X rAppend opApp := by
  intro W H p ds as vs us z ds' Q s n h r ra e q
  unfold opApp at e
  split at e
  · rename_i d
    split at e
    · rename_i c
      cases e
      simp only [RepL] at ra
      obtain ⟨v, _, rfl, r1, rfl⟩ := ra
      exact ⟨p, vs, v, rfl, rfl, h, by rw [r.len]; exact c, q _ _ (r.snoc r1) rfl⟩
    · cases e
  · cases e
theorem mut_ext : MutR X rExtend opExt := by
  intro W H p ds as vs us z ds' Q s n h r ra e q
  unfold opExt at e
  split at e
  · rename_i es
    split at e
    · rename_i c
      cases e
      simp only [RepL, Rep] at ra
      obtain ⟨v, _, rfl, ⟨b, zs, rfl, hb, rb⟩, rfl⟩ := ra
      exact ⟨p, b, vs, zs, rfl, rfl, h, s _ _ hb, by rw [r.len, rb.len]; exact c, q _ _ (r.append rb) rfl⟩
    · cases e
  · cases e
theorem ex_mutL {i : Nat} {x name : Str} {id : String} {p apos cpos : Pos} {e : Expr} {es : List Expr} {g : AF} {r : V → List V → Hp → VK → Prop} {op : List D → List D → Option (D × List D)} (slot : Slot "list" name id) (hty : typeOf (.builtin id) = pure (.type "method_descriptor")) (hm : MtR X id r) (mu : MutR X r op)
    (h : PE X (.Name x p) (tVar i)) (ha : EA X Wx (e :: es) g)
    (hbase : attributeBase (.Name x p) name X.env (eval (.Name x p) X.env) = eval (.Name x p) X.env := by rfl)
    (hfew : ((backTo cpos (starEach (e :: es) X.env)).all (fun x => !x.1) && (backToKw cpos (keywordEach [] X.env)).all (fun x => x.1.isSome)
      && decide ((e :: es).length + ([] : List Keyword).length + (if ([] : List Keyword).isEmpty then 0 else 1) < 30)) = true := by rfl)
    (hline : (apos.endLine == cpos.line) = true := by rfl) (hs : starEach (e :: es) X.env = (false, eval e X.env) :: starEach es X.env := by rfl) (hplain : (backTo cpos (starEach es X.env)).any (·.1) = false := by rfl) :
    EX X Wx (.Call (.Attribute (.Name x p) name apos) (e :: es) [] cpos) (xMutL i op g) := by
  refine PE.wk (pe_bm PySem.F.plainAttrs_list slot hty hm h ha hbase hfew hline hs hplain) ?_
  rintro σ H Q ⟨ρ, W, env, A, S, h⟩
  unfold xMutL at h
  split at h
  · rename_i t0 ds0 e0
    obtain ⟨v, l, h1, h2, h3⟩ := S.at e0
    obtain ⟨p, rfl, rfl, q3, ⟨vs0, q4, _⟩, _⟩ := h3
    refine ⟨.ref p, h1, .inl ⟨rfl, vs0, .of q4⟩, tG_then S h fun as W1 H1 env1 A1 us S1 F1 ra h4 => ?_⟩
    simp only at h4
    split at h4
    · rename_i t ds e1
      split at h4
      · rename_i z ds' eo
        obtain ⟨v, l, g1, g2, g3⟩ := S1.at e1
        obtain ⟨p', rfl, e3, g3, ⟨vs, g4, rv⟩, g5⟩ := g3
        rw [h1] at g1
        have ep : p' = p := by cases g1; cases e3; rfl
        subst ep
        refine mu W1 H1 p' ds as vs us z ds' Q S1.sub g3 g4 rv ra eo fun vs' v rv' rz => ?_
        obtain ⟨S2, F2⟩ := S1.mut (c' := .list ds') (o := .lst vs') e1 h1 ⟨vs', upd_same, rv'⟩
        exact h4 W1 _ A1 v S2 F2 rz
      · exact h4.elim
    · exact h4.elim
  · exact h.elim
end
end DP
set_option Elab.async false
set_option linter.all false
set_option maxRecDepth 100000
/-! DP, part 15: chains, globals, len, subscripts, a, b = x, y; repr. -/
namespace DP
open PySem PySem.Spec PyProof.Rows L2

/-! ### a < b < c -/
section
variable {X : Cx} {Wx : WX} {a b c : Expr} {f g k : XF} {pos : Pos} {op op' : CmpOp} {o o' : D → D → Option D}
/-- a comparison that gives a bool -/
def BoolOp2 (o : D → D → Option D) : Prop := ∀ x y z, o x y = some z → ∃ b, z = .bool b
theorem ex_chain (ho : OpR X (compareOp op) (tV2 X.K X.w o)) (ho' : OpR X (compareOp op') (tV2 X.K X.w o')) (ha : EX X Wx a f) (hb : EX X Wx b g) (hc : EX X Wx c k)
    (hm : lastMarks [op, op'] [b, c] = false := by with_unfolding_all rfl) : EX X Wx (.Compare a [op, op'] [b, c] pos) (xChain o o' f g k) := by
  refine PE.wk (pe_chain ho ho' ha hb hc hm) ?_
  rintro σ H Q ⟨ρ, W, env, A, S, h⟩
  unfold xChain at h
  refine tG_then S h fun d W1 H1 env1 A1 v S1 F1 r1 h1 => ?_
  refine tG_then S1 h1 fun d2 W2 H2 env2 A2 u S2 F2 r2 h2 => ?_
  simp only at h2
  refine ⟨W2, d, d2, S2.sub, Rep.mono F2.ext d v r1, r2, ?_⟩
  cases eo : o d d2 with
  | none => rw [eo] at h2; exact h2.elim
  | some z =>
    rw [eo] at h2
    intro W3 H3 v3 e3 r3
    simp only [liftO_some, Out.bind_ok] at h2
    unfold asB at h2
    cases z with
    | bool q =>
      simp only [Rep] at r3
      subst r3
      refine ⟨q, rfl, ?_⟩
      simp only [Out.bind_ok] at h2
      have S3 := S2.ex e3
      cases q with
      | false =>
        simp only [Bool.false_eq_true, if_false] at h2 ⊢
        exact h2 W3 H3 A2 _ S3 (e3.fr _) rfl
      | true =>
        simp only [if_true] at h2 ⊢
        have h3 := onG_fr h2 (e3.fr (ownd A2))
        refine tG_then S3 h3 fun d4 W4 H4 env4 A4 v4 S4 F4 r4 h4 => ?_
        have h5 : onX X Wx ρ σ W4 H4 A4 (liftO (o' d2 d4) env4) Q := by
          simp only at h4
          cases eo' : o' d2 d4 with
          | none => rw [eo'] at h4; exact h4.elim
          | some z => rw [eo'] at h4; exact h4
        exact ⟨W4, d2, d4, S4.sub, Rep.mono (e3.ext.trans F4.ext) d2 u r2, r4, onV_of S4 h5⟩
    | _ => exact h2.elim
/-- a name of the module: a constant -/
theorem ex_globI {x : Str} {i : Int} {t : Tok} (hg : Gl X x) (hm : X.mg x = some (.int i t)) (hd : (x == ("__debug__" : Str)) = false := by decide) : EX X Wx (.Name x pos) (xConst (.int i)) :=
  ex_const (pe_glob (v := .int i) hg hm ⟨t, rfl⟩ hd) fun W => by simp only [Rep]
theorem ex_globS {x y : Str} {t : Tok} (hg : Gl X x) (hm : X.mg x = some (.str y t)) (hd : (x == ("__debug__" : Str)) = false := by decide) : EX X Wx (.Name x pos) (xConst (.str y)) :=
  ex_const (pe_glob (v := .str y) hg hm ⟨t, rfl⟩ hd) fun W => by simp only [Rep]
end

/-! ### len -/
def lenD (ds : List D) : Option D := match ds with
  | [.list xs] => some (.int xs.length)
  | [.tuple xs] => some (.int xs.length)
  | [.str x] => if x.length ≤ sizeLine then some (.int x.length) else none
  | [.dict xs] => some (.int xs.length)
  | _ => none
theorem CallR.or {X : Cx} {f : Value} {r r' : List V → Hp → VK → Prop} (h : CallR X f r) (h' : CallR X f r') : CallR X f (fun x H Q => r x H Q ∨ r' x H Q) := fun pins s σ H x v Q I r1 q => q.elim (h pins s σ H x v Q I r1) (h' pins s σ H x v Q I r1)
theorem RepKV.len {K : PySem.W.Frag} {w : World} {W : Hp} : ∀ {kvs : List (D × D)} {es : List DictEntry}, RepKV K w W kvs es → es.length = kvs.length
  | [], _, h => by simp only [RepKV] at h; subst h; rfl
  | (k, d) :: r, _, h => by
    simp only [RepKV] at h
    obtain ⟨e, q, rfl, _, _, _, h2⟩ := h
    simp [RepKV.len h2]
section
variable {X : Cx} {Wx : WX}
theorem dlen {w : World} {prog : Program} {A : Around} {E : Value → Shared → Prop} {s : Shared} {a : Addr} {es : Array DictEntry} {ep : Nat} {Q : Value → Shared → Prop} (hs : (a == sysModules) = false) (ho : s.heap.get? a = some (dobj es ep)) (hz : es.size ≤ sizeLine)
    (h : ∀ t tk, Q (.int es.size t) { s with toks := tk }) : wpAny (model prog w) A (call (.builtin "len") [.ref a]) Q E s := by
  have T := dobj_type ho
  have hz' : (es.size : Int) < 2 ^ 63 := by rw [sizeLine_eq] at hz; omega
  refine Calls.call_function_entry kind_len plain_len entry_len (args_len1 _) ?_
  unfold Builtin.«len»
  refine wpAny_bind (m := oneArg "len" _) (wpAny_pure ?_)
  refine wpAny_bind (m := callSpecial? (.ref a) (Str.ofString "__len__")) (wpAny_callSpecial?_slot (name := Str.ofString "__len__") T F.slot_dict_len (call_len_raw hs ⟨_, ho, ⟨rfl, rfl, rfl⟩, rfl⟩ ?_))
  refine wpAny_bind (wpAny_holding (wpAny_pure ?_))
  refine wpAny_bind (wpAny_letGo ?_)
  show wpAny _ _ (if ((es.size : Nat) : Int) < 0 then _ else _) _ _ _
  rw [if_neg (by omega)]
  show wpAny _ _ (if ((es.size : Nat) : Int) ≥ 2 ^ 63 then _ else _) _ _ _
  rw [if_neg (by omega)]
  exact wpAny_bind (wpAny_mkInt (wpAny_pure ⟨_, rfl, h _ _⟩))
theorem cr_lenDict : CallR X (.builtin "len") (fun xs H Q => ∃ p es ep, xs = [.ref p] ∧ H p = some (dicO p es ep) ∧ Q (.int es.size) H) := by
  intro pins s σ H xs us Q I r h
  obtain ⟨p, es, ep, rfl, hq, q⟩ := h
  obtain ⟨u, rfl, rx⟩ := vals1 r
  cases rx
  obtain ⟨⟨h1, h2, h3⟩, _⟩ := I.hok p _ hq
  exact dlen h1 h3 h2 fun t tk => ⟨.int es.size, H, I.tok _, ⟨t, rfl⟩, q⟩
theorem cr_lenD : CallR X (.builtin "len") (tVn X.K X.w lenD) := by
  refine CallR.wk (CallR.or call_len_seq (CallR.or call_len_str cr_lenDict)) ?_
  rintro xs H Q ⟨W, ds, s, r, h⟩
  unfold lenD at h
  split at h
  · simp only [RepL, Rep] at r
    obtain ⟨v, _, rfl, ⟨a, vs, rfl, q, l⟩, rfl⟩ := r
    exact .inl ⟨a, vs, rfl, .inl (.of (s _ _ q)), h.flat s (by simp only [Rep]; rw [l.len])⟩
  · simp only [RepL, Rep] at r
    obtain ⟨v, _, rfl, ⟨a, vs, rfl, q, l⟩, rfl⟩ := r
    exact .inl ⟨a, vs, rfl, .inr (Same.sqt s q), h.flat s (by simp only [Rep]; rw [l.len])⟩
  · simp only [RepL, Rep] at r
    obtain ⟨v, _, rfl, rfl, rfl⟩ := r
    split at h
    · rename_i c
      exact .inr (.inl ⟨_, rfl, c, h.flat s rfl⟩)
    · exact h.elim
  · simp only [RepL, Rep] at r
    obtain ⟨v, _, rfl, ⟨a, es, ep, rfl, q, l, _⟩, rfl⟩ := r
    refine .inr (.inr ⟨a, es, ep, rfl, s _ _ q, h.flat s ?_⟩)
    simp only [Rep]
    rw [← l.len, Array.length_toList]
  · exact h.elim
end

/-! ### keys -/
mutual
theorem nested_of : ∀ {h : Heap} {u : Value} {d : D} {as : List Addr} {k : NestedKey}, Reads h u d as → keyD d = some k → NestedIs h k u
  | _, _, _, _, _, .none, e => by simp only [keyD, Option.some.injEq] at e; subst e; exact .none
  | _, _, _, _, _, .bool b, e => by simp only [keyD, Option.some.injEq] at e; subst e; exact .bool rfl
  | _, _, _, _, _, .int i t, e => by simp only [keyD, Option.some.injEq] at e; subst e; exact .int i t
  | _, _, _, _, _, .str x t, e => by simp only [keyD, Option.some.injEq] at e; subst e; exact .text x t
  | _, _, _, _, _, .tuple h1 h2 h3 h4, e => by
    simp only [keyD] at e
    obtain ⟨ks, e1, e2⟩ := Option.map_eq_some_iff.mp e
    subst e2
    exact .tup h1 h2 h3 (nested_all h4 e1)
  | _, _, _, _, _, .list _ _ _ _, e => by simp [keyD] at e
  | _, _, _, _, _, .dict _ _ _ _ _, e => by simp [keyD] at e
theorem nested_all : ∀ {h : Heap} {us : List Value} {ds : List D} {as : List Addr} {ks : List NestedKey}, ReadsAll h us ds as → keysD ds = some ks → NestedAll h ks us
  | _, _, _, _, _, .nil, e => by simp only [keysD, Option.some.injEq] at e; subst e; exact .nil
  | _, _, _, _, _, .cons r t, e => by
    simp only [keysD] at e
    obtain ⟨k, e1, e2⟩ := Option.bind_eq_some_iff.mp e
    obtain ⟨ks, e3, e4⟩ := Option.map_eq_some_iff.mp e2
    subst e4
    exact .cons (nested_of r e1) (nested_all t e3)
end
def keyOk (k : D) : Bool := match keyD k with
  | some kk => decide (kk.depth ≤ 8)
  | none => false
def kIs (k : D) (p : D × D) : Bool := decide (keyD p.1 = keyD k)
def dAt (kvs : List (D × D)) (k : D) : Option D := (kvs.find? (kIs k)).map (·.2)
theorem keyOk_iff {k : D} (h : keyOk k = true) : ∃ kk, keyD k = some kk ∧ kk.depth ≤ 8 := by
  unfold keyOk at h
  split at h
  · rename_i kk e
    exact ⟨kk, e, of_decide_eq_true h⟩
  · cases h
theorem find_nodup {α β : Type} [DecidableEq β] (f : α → β) : ∀ {l : List α} {j : Nat} {p : α}, (l.map f).Nodup → l[j]? = some p → l.find? (fun q => decide (f q = f p)) = some p
  | [], _, _, _, h => by simp at h
  | q :: l, 0, p, _, h => by
    cases h
    rw [List.find?_cons_of_pos (by simp)]
  | q :: l, j + 1, p, n, h => by
    rw [List.map_cons, List.nodup_cons] at n
    have h' : l[j]? = some p := by simpa using h
    rw [List.find?_cons_of_neg (by
      simp only [decide_eq_true_eq]
      exact fun z => n.1 (by rw [z]; exact List.mem_map.mpr ⟨p, List.mem_of_getElem? h', rfl⟩))]
    exact find_nodup f n.2 h'
section
variable {K : PySem.W.Frag} {w : World} {W : Hp}
theorem RepKV.at : ∀ {kvs : List (D × D)} {es : List DictEntry} {j : Nat} {e : DictEntry}, RepKV K w W kvs es → es[j]? = some e →
    ∃ k v, kvs[j]? = some (k, v) ∧ (∃ kk, keyD k = some kk ∧ kk.depth ≤ 8 ∧ e.hash = kk.hash w) ∧ (∃ x, RelV x e.key ∧ Rep K w W k x) ∧ ∃ y, RelV y e.val ∧ Rep K w W v y
  | [], _, _, _, h, e => by simp only [RepKV] at h; subst h; simp at e
  | (k, d) :: r, _, 0, _, h, e => by
    simp only [RepKV] at h
    obtain ⟨en, q, rfl, h1, h2, h3, _⟩ := h
    cases e
    exact ⟨k, d, rfl, h1, h2, h3⟩
  | (k, d) :: r, _, j + 1, _, h, e => by
    simp only [RepKV] at h
    obtain ⟨en, q, rfl, h1, h2, h3, h4⟩ := h
    obtain ⟨k', v', q1, q2⟩ := RepKV.at (j := j) h4 (by simpa using e)
    exact ⟨k', v', by simpa using q1, q2⟩
theorem RepKV.keys : ∀ {kvs : List (D × D)} {es : List DictEntry}, RepKV K w W kvs es → ∃ ks : List NestedKey, kvs.map (fun p => keyD p.1) = ks.map some
  | [], _, _ => ⟨[], rfl⟩
  | (k, d) :: r, _, h => by
    simp only [RepKV] at h
    obtain ⟨en, q, rfl, ⟨kk, h1, _⟩, h2, h3, h4⟩ := h
    obtain ⟨ks, e⟩ := RepKV.keys h4
    exact ⟨kk :: ks, by rw [List.map_cons, List.map_cons, e, h1]⟩
variable {X : Cx} {pins : List (Addr × Obj)} {σ : L2.St} {H : Hp} {s : Shared}
theorem Rep.key (I : Inv X pins σ H s) (sm : Same W H) {d : D} {v : V} {u : Value} {k : NestedKey} (r : Rep X.K X.w W d v) (ru : RelV v u) (e : keyD d = some k) : NestedIs s.heap k u := by
  obtain ⟨as, ra⟩ := Rep.reads I sm d v u r ru
  exact nested_of ra e
theorem RepKV.ents (I : Inv X pins σ H s) (sm : Same W H) {kvs : List (D × D)} {es : Array DictEntry} (r : RepKV X.K X.w W kvs es.toList) (nd : (kvs.map fun p => keyD p.1).Nodup) :
    ∃ ks : List NestedKey, kvs.map (fun p => keyD p.1) = ks.map some ∧ Ents X.w s.heap ks es := by
  obtain ⟨ks, e⟩ := r.keys
  refine ⟨ks, e, ?_, fun i en he => ?_, ?_⟩
  · have h1 := congrArg List.length e
    have h2 := r.len
    rw [Array.length_toList] at h2
    simp only [List.length_map] at h1
    omega
  · obtain ⟨k, v, q1, ⟨kk, q2, q3, q4⟩, ⟨x, q5, q6⟩, _⟩ := r.at (j := i) (e := en) (by rw [Array.getElem?_toList]; exact he)
    refine ⟨kk, ?_, Rep.key I sm q6 q5 q2, q3, q4⟩
    have := congrArg (fun l => l[i]?) e
    simp only [List.getElem?_map, q1, Option.map_some, q2] at this
    cases hk : ks[i]? with
    | none => rw [hk] at this; cases this
    | some z => rw [hk] at this; cases this; rfl
  · rw [e] at nd
    exact List.Pairwise.of_map some (fun a b h z => h (congrArg some z)) nd
/-- what the search found -/
theorem hit_none {kvs : List (D × D)} {ks : List NestedKey} {d : D} {k : NestedKey} (e : kvs.map (fun p => keyD p.1) = ks.map some) (hk : keyD d = some k) (h : Hit ks k none) : dAt kvs d = none ∧ kvs.any (kIs d) = false := by
  have : ∀ p ∈ kvs, ¬ kIs d p = true := fun p hp z => by
    have z' := of_decide_eq_true z
    have hm : keyD p.1 ∈ kvs.map (fun p => keyD p.1) := List.mem_map.mpr ⟨p, hp, rfl⟩
    rw [e, z', hk] at hm
    obtain ⟨k', h1, h2⟩ := List.mem_map.mp hm
    cases h2
    exact h h1
  refine ⟨?_, by rw [List.any_eq_false]; exact this⟩
  unfold dAt
  rw [List.find?_eq_none.mpr this]
  rfl
theorem hit_some {kvs : List (D × D)} {ks : List NestedKey} {d : D} {k : NestedKey} {j : Nat} (e : kvs.map (fun p => keyD p.1) = ks.map some) (nd : (kvs.map fun p => keyD p.1).Nodup) (hk : keyD d = some k) (h : Hit ks k (some j)) :
    ∃ p, kvs[j]? = some p ∧ keyD p.1 = keyD d ∧ dAt kvs d = some p.2 ∧ kvs.any (kIs d) = true := by
  have h1 : (kvs.map fun p => keyD p.1)[j]? = some (some k) := by rw [e, List.getElem?_map, show ks[j]? = some k from h]; rfl
  rw [List.getElem?_map] at h1
  obtain ⟨p, hp, hq⟩ := Option.map_eq_some_iff.mp h1
  have hq' : keyD p.1 = keyD d := hq.trans hk.symm
  refine ⟨p, hp, hq', ?_, ?_⟩
  · unfold dAt kIs
    have := find_nodup (fun p : D × D => keyD p.1) nd hp
    simp only [hq'] at this
    rw [this]
    rfl
  · exact List.any_eq_true.mpr ⟨p, List.mem_of_getElem? hp, decide_eq_true hq'⟩
end

/-! ### subscripts -/
def ixD (x k : D) : Option D := match x, k with
  | .list ds, .int i => atI ds i
  | .tuple ds, .int i => atI ds i
  | .str z, .int i => if z.length ≤ sizeLine then (atI z.cps.toList i).map fun c => .str ⟨#[c]⟩ else none
  | .dict kvs, k => if keyOk k = true then dAt kvs k else none
  | _, _ => none
theorem RepL.atI' {K : PySem.W.Frag} {w : World} {W : Hp} {ds : List D} {vs : List V} {i : Int} {d : D} (h : RepL K w W ds vs) (e : atI ds i = some d) : ∃ v, atI vs i = some v ∧ Rep K w W d v := by
  unfold atI at e ⊢
  rw [h.len]
  obtain ⟨j, e1, e2⟩ := Option.bind_eq_some_iff.mp e
  obtain ⟨v, h1, h2⟩ := h.at e2
  exact ⟨v, by rw [e1]; exact h1, h2⟩
section
variable {X : Cx} {Wx : WX} {W H : Hp}
def rIxDic (X : Cx) : R2 := fun x y H Q => ∃ W a es ep k kvs, x = .ref a ∧ Same W H ∧ Rep X.K X.w W k y ∧ keyOk k = true ∧ H a = some (dicO a es ep) ∧ RepKV X.K X.w W kvs es.toList ∧ (kvs.map fun p => keyD p.1).Nodup ∧
  ∃ d, dAt kvs k = some d ∧ ∀ v, Rep X.K X.w W d v → Q v H
theorem ix_dic (hu : X.A.units + 64 < cLine) : IxR X (rIxDic X) := by
  intro value slice pins s σ H x y v u Q I rx ry h hs
  obtain ⟨W, a, es, ep, k, kvs, rfl, sm, rk, ok, hH, kv, nd, d, hd, q⟩ := h
  cases rx
  obtain ⟨kk, k1, k2⟩ := keyOk_iff ok
  obtain ⟨⟨h1, h2, h3⟩, _⟩ := I.hok a _ hH
  obtain ⟨ks, ek, N⟩ := RepKV.ents I sm kv nd
  have hk := Rep.key I sm rk ry k1
  have hm : kk ∈ ks := by
    cases hit : decide (kk ∈ ks) with
    | true => exact of_decide_eq_true hit
    | false =>
      have := (hit_none ek k1 (show Hit ks kk none from of_decide_eq_false hit)).1
      rw [this] at hd; cases hd
  obtain ⟨j, hj⟩ := List.getElem?_of_mem hm
  obtain ⟨p, p1, p2, p3, _⟩ := hit_some ek nd k1 (show Hit ks kk (some j) from hj)
  obtain ⟨e, e1, _⟩ := N.get hj
  obtain ⟨k', v', q1, _, _, yv, q2, q3⟩ := kv.at (j := j) (e := e) (by rw [Array.getElem?_toList]; exact e1)
  rw [p1] at q1
  cases q1
  rw [hd] at p3
  cases p3
  exact subscriptTail_builtinR (x := e.val) (dobj_type h3) F.slot_dict_getitem.lookup (dgetItem (Q := fun r s' => r = e.val ∧ EP X pins σ Q r s') N (by omega) h3 hk k2 hj e1 fun t => ⟨rfl, yv, H, I.tok _, q2, q yv q3⟩) hs
theorem ix_dD (hu : X.A.units + 64 < cLine) : IxR X (tV2 X.K X.w ixD) := by
  intro value slice pins s σ H x y v u Q I rx ry h hs
  refine (ix_list.or (ix_tup.or (ix_str.or (ix_dic hu)))) value slice pins s σ H x y v u Q I rx ry ?_ hs
  obtain ⟨W, d, k, sm, r1, r2, h⟩ := h
  unfold ixD at h
  split at h
  · simp only [Rep] at r1 r2
    obtain ⟨a, vs, rfl, q, l⟩ := r1
    subst r2
    rename_i ds i
    cases e : atI ds i with
    | none => rw [e] at h; exact h.elim
    | some d =>
      rw [e] at h
      obtain ⟨z, e1, r⟩ := l.atI' e
      exact .inl ⟨a, vs, i, z, rfl, rfl, .of (sm _ _ q), e1, h.flat sm r⟩
  · simp only [Rep] at r1 r2
    obtain ⟨a, vs, rfl, q, l⟩ := r1
    subst r2
    rename_i ds i
    cases e : atI ds i with
    | none => rw [e] at h; exact h.elim
    | some d =>
      rw [e] at h
      obtain ⟨z, e1, r⟩ := l.atI' e
      exact .inr (.inl ⟨a, vs, i, z, rfl, rfl, Same.sqt sm q, e1, h.flat sm r⟩)
  · simp only [Rep] at r1 r2
    subst r1 r2
    rename_i z i
    split at h
    · rename_i c
      cases e : atI z.cps.toList i with
      | none => rw [e] at h; exact h.elim
      | some d =>
        rw [e] at h
        exact .inr (.inr (.inl ⟨z, i, d, rfl, rfl, c, e, h.flat sm rfl⟩))
    · exact h.elim
  · rename_i kvs
    simp only [Rep] at r1
    obtain ⟨a, es, ep, rfl, q, l, nd⟩ := r1
    split at h
    · rename_i c
      cases e : dAt kvs k with
      | none => rw [e] at h; exact h.elim
      | some d =>
        rw [e] at h
        exact .inr (.inr (.inr ⟨W, a, es, ep, _, kvs, rfl, sm, r2, c, sm _ _ q, l, nd, d, e, fun v r => h.flat sm r⟩))
    · exact h.elim
  · exact h.elim
theorem ex_ix {a b : Expr} {f g : XF} {pos : Pos} (hu : X.A.units + 64 < cLine) (ha : EX X Wx a f) (hb : EX X Wx b g) (hs : PlainIx b) : EX X Wx (.Subscript a b pos) (x2 ixD f g) :=
  PE.wk (pe_ix (ix_dD hu) ha hb hs) fun σ H Q h => x2_read (fun _ _ _ _ q => q) h

/-! ### repr -/
def reprD (ds : List D) : Option D := match ds with
  | [d] => if d.showable = true ∧ d.hasDict = false ∧ d.depth ≤ 60 ∧ d.shown.length ≤ sizeLine then some (.str d.shown) else none
  | _ => none
theorem cr_reprD (hq : X.A.guards = some []) (hu : X.A.units + 64 < cLine) : CallR X (.builtin "repr") (tVn X.K X.w reprD) := by
  intro pins s σ H xs us Q I r h
  obtain ⟨W, ds, sm, rl, h⟩ := h
  unfold reprD at h
  split at h
  · rename_i d
    simp only [RepL] at rl
    obtain ⟨v, _, rfl, rv, rfl⟩ := rl
    obtain ⟨u, rfl, rx⟩ := vals1 r
    split at h
    · rename_i c
      obtain ⟨c1, c2, c3, c4⟩ := c
      obtain ⟨as, ra⟩ := Rep.reads I sm d v u rv rx
      have fin : ∀ h' t tk, (∀ b o, s.heap.get? b = some o → h'.get? b = some o) → EP X pins σ Q (.str d.shown t) { s with heap := h', toks := tk } := fun h' t tk hk =>
        ⟨.str d.shown, H, I.kept (h' := h') (t' := tk) hk, ⟨t, rfl⟩, h.flat sm rfl⟩
      have fin0 : EP X pins σ Q (.str d.shown s.toks) { s with toks := s.toks + 1 } := fin s.heap s.toks (s.toks + 1) fun _ _ e => e
      have room : X.A.units + (d.depth + 1) < cLine := by omega
      cases ra with
      | none => rw [PyData.shown_none] at fin0; exact PySem.P.repr_of_none fin0
      | bool b => rw [PyData.shown_bool] at fin0; exact PySem.P.repr_of_bool (by cases b <;> exact fin0)
      | int i t =>
        rw [PyData.shown_int] at fin0
        exact PySem.P.repr_of_int (by simpa [PyData.showable] using c1) fin0
      | str x t =>
        rw [PyData.shown_str] at fin0 c4
        exact PySem.P.repr_of_str fin0 c4
      | list h1 h2 h3 h4 =>
        exact repr_of_reads' (.list h1 h2 h3 h4) c1 (PyData.noDict_hsm c2) hq room (fun _ _ e => e) (fun h' t tk hk => fin h' t tk hk) c4
      | tuple h1 h2 h3 h4 =>
        exact repr_of_reads' (.tuple h1 h2 h3 h4) c1 (PyData.noDict_hsm c2) hq room (fun _ _ e => e) (fun h' t tk hk => fin h' t tk hk) c4
      | dict h1 h2 h3 h4 h5 => simp [PyData.hasDict] at c2
    · exact h.elim
  · exact h.elim
end
end DP
set_option Elab.async false
set_option linter.all false
set_option maxRecDepth 100000
/-! DP, part 16: a, b = x, y; sorted(set(xs)) of tuples of ints. -/
namespace DP
open PySem PySem.Spec PyProof.Rows L2

/-! ### a, b = x, y -/
def sPar2 (i j : Nat) (g : AF) : SF := fun env => (g env).bind fun r => match r.1 with
  | [a, b] => .ok (.nx, (r.2.set i (.fz a)).set j (.fz b))
  | _ => .bad
section
variable {X : Cx} {Wx : WX}
theorem es_par2 {i j : Nat} {x y : Str} {a b : Expr} {g : AF} {px py pt pos : Pos} {kt k2 pt2} (hc : X.calm = true) (hN : X.N.Nodup) (hi : X.N[i]? = some x) (hj : X.N[j]? = some y) (hij : i ≠ j)
    (hx : X.env.scope.names.lookup x = some .local) (hy : X.env.scope.names.lookup y = some .local) (ha : EA X Wx [a, b] g)
    (hw : swappedStores [.Tuple [.Name x px, .Name y py] kt pt] (.Tuple [a, b] k2 pt2) X.env = pure (some [x, y]))
    (hs : swapsWithSole [.Tuple [.Name x px, .Name y py] kt pt] (.Tuple [a, b] k2 pt2) pos.line X.env = pure false := by rfl) :
    ES X Wx (.Assign [.Tuple [.Name x px, .Name y py] kt pt] (.Tuple [a, b] k2 pt2) pos) (sPar2 i j g) := by
  refine PS.wk (ps_par hc hN hi hj hij hx hy ha hw hs) ?_
  rintro D σ H ⟨ρ, W, env, A, S, h⟩
  refine tS_then S h fun ds W1 H1 env1 A1 vs S1 F1 r1 h1 => ?_
  simp only at h1
  split at h1
  · simp only [RepL] at r1
    obtain ⟨v, _, rfl, rv, u, _, rfl, ru, rfl⟩ := r1
    exact ⟨v, u, rfl, h1 W1 H1 _ _ ((S1.setFz i rv).setFz j ru) (fr_sub fun p q => ownd_nil (ownd_nil q))⟩
  · exact h1.elim
end

/-! ### sorted(set(..)) -/
abbrev tupI (ns : List Int) : D := .tuple (ns.map .int)
def isIT : D → Option (List Int)
  | .tuple ds => intsD ds
  | _ => none
def itsD : List D → Option (List (List Int))
  | [] => some []
  | d :: r => (isIT d).bind fun n => (itsD r).map fun l => n :: l
/-- strictly before, by the first difference -/
def lexI : List Int → List Int → Bool
  | [], [] => false
  | [], _ :: _ => true
  | _ :: _, [] => false
  | x :: xs, y :: ys => if x = y then lexI xs ys else decide (x < y)
theorem alike_ints : ∀ xs ys : List Int, PySem.W.alikeAll (xs.map PyData.int) (ys.map PyData.int) = true
  | [], _ => by simp [PySem.W.alikeAll]
  | _ :: _, [] => by simp [PySem.W.alikeAll]
  | x :: xs, y :: ys => by
    rw [List.map_cons, List.map_cons, PySem.W.alikeAll, alike_ints xs ys]
    simp [PySem.W.alike]
theorem toks_lexI : ∀ xs ys : List Int, PyProof.Rows.lexLt PyProof.Rows.itemOrd (PySem.W.keyToksAll (xs.map PyData.int)) (PySem.W.keyToksAll (ys.map PyData.int)) = lexI xs ys
  | [], [] => by decide
  | [], y :: ys => by
    rw [List.map_cons, PySem.W.toks_all_cons]
    simp only [List.map_nil, PySem.W.keyToksAll]
    rw [PySem.W.lex_atom (by simp)]
    rfl
  | x :: xs, [] => by
    rw [List.map_cons, PySem.W.toks_all_cons]
    simp only [List.map_nil, PySem.W.keyToksAll]
    rw [PySem.W.lex_atom (by simp)]
    rfl
  | x :: xs, y :: ys => by
    rw [List.map_cons, List.map_cons]
    have al : PySem.W.alike (PyData.int x) (PyData.int y) = true := by simp [PySem.W.alike]
    cases e : PyData.eqv (PyData.int x) (PyData.int y) with
    | true =>
      have hxy : x = y := by simpa [PyData.eqv] using e
      rw [PySem.W.dataLt_all_yes al e, toks_lexI xs ys, lexI, if_pos hxy]
    | false =>
      have hxy : ¬ x = y := by simpa [PyData.eqv] using e
      rw [PySem.W.dataLt_all_no al e, PySem.W.dataLt_int, lexI, if_neg hxy]
theorem dataLt_tupI (xs ys : List Int) : PySem.W.dataLt (tupI xs) (tupI ys) = lexI xs ys := by rw [PySem.W.dataLt_tuple, toks_lexI]
theorem lexI_irrefl : ∀ xs : List Int, lexI xs xs = false
  | [] => rfl
  | x :: xs => by rw [lexI, if_pos rfl, lexI_irrefl xs]
theorem lexI_trans : ∀ {xs ys zs : List Int}, lexI xs ys = true → lexI ys zs = true → lexI xs zs = true
  | [], [], _, h, _ => by simp [lexI] at h
  | [], _ :: _, [], _, h => by simp [lexI] at h
  | [], _ :: _, _ :: _, _, _ => rfl
  | _ :: _, [], _, h, _ => by simp [lexI] at h
  | _ :: _, _ :: _, [], _, h => by simp [lexI] at h
  | x :: xs, y :: ys, z :: zs, h, k => by
    rw [lexI] at h k ⊢
    by_cases h1 : x = y
    · rw [if_pos h1] at h
      by_cases h2 : y = z
      · rw [if_pos h2] at k
        rw [if_pos (h1.trans h2)]
        exact lexI_trans h k
      · rw [if_neg h2] at k
        rw [if_neg (by rw [h1]; exact h2), h1]
        exact k
    · rw [if_neg h1] at h
      have h' := of_decide_eq_true h
      by_cases h2 : y = z
      · rw [if_neg (by rw [← h2]; exact h1), ← h2]
        exact h
      · rw [if_neg h2] at k
        have k' := of_decide_eq_true k
        rw [if_neg (by omega)]
        exact decide_eq_true (by omega)
theorem lexI_tri : ∀ {xs ys : List Int}, lexI xs ys = false → lexI ys xs = false → xs = ys
  | [], [], _, _ => rfl
  | [], _ :: _, h, _ => by simp [lexI] at h
  | _ :: _, [], _, h => by simp [lexI] at h
  | x :: xs, y :: ys, h, k => by
    rw [lexI] at h k
    by_cases h1 : x = y
    · rw [if_pos h1] at h
      rw [if_pos h1.symm] at k
      rw [h1, lexI_tri h k]
    · rw [if_neg h1] at h
      rw [if_neg (fun z => h1 z.symm)] at k
      have h' := of_decide_eq_false h
      have k' := of_decide_eq_false k
      omega
theorem lexI_asymm {xs ys : List Int} (h : lexI xs ys = true) : lexI ys xs = false := by
  cases k : lexI ys xs with
  | false => rfl
  | true =>
    have := lexI_trans h k
    rw [lexI_irrefl] at this
    cases this
def leI (a b : List Int) : Bool := !lexI b a
theorem leI_trans (a b c : List Int) (h : leI a b = true) (k : leI b c = true) : leI a c = true := by
  unfold leI at *
  simp only [Bool.not_eq_true'] at *
  cases e : lexI c a with
  | false => rfl
  | true =>
    cases f : lexI a b with
    | true => rw [lexI_trans e f] at k; cases k
    | false =>
      have := lexI_tri f h
      subst this
      rw [e] at k; cases k
theorem leI_total (a b : List Int) : (leI a b || leI b a) = true := by
  unfold leI
  cases e : lexI b a with
  | false => rfl
  | true => rw [lexI_asymm e]; rfl
theorem leI_anti {a b : List Int} (h : leI a b = true) (k : leI b a = true) : a = b := by
  unfold leI at *
  simp only [Bool.not_eq_true'] at *
  exact lexI_tri k h
theorem dLe_tupI (a b : List Int) : dLe (tupI a) (tupI b) = leI a b := by
  unfold dLe PySem.W.dataLe leI
  rw [← dataLt_tupI]
  rfl
theorem sorted_one {α : Type} {le : α → α → Bool} (anti : ∀ a b, le a b = true → le b a = true → a = b) : ∀ {l m : List α}, l.Perm m → l.Pairwise (fun a b => le a b = true) → m.Pairwise (fun a b => le a b = true) → l = m
  | [], m, p, _, _ => by rw [List.nil_perm.mp p]
  | a :: l, [], p, _, _ => by simpa using p.length_eq
  | a :: l, b :: m, p, h, k => by
    have ha : a ∈ b :: m := p.mem_iff.mp List.mem_cons_self
    have hb : b ∈ a :: l := p.mem_iff.mpr List.mem_cons_self
    have e : a = b := by
      rcases List.mem_cons.mp ha with q | q
      · exact q
      · rcases List.mem_cons.mp hb with r | r
        · exact r.symm
        · exact anti a b ((List.pairwise_cons.mp h).1 b r) ((List.pairwise_cons.mp k).1 a q)
    subst e
    rw [sorted_one anti ((List.perm_cons a).mp p) (List.pairwise_cons.mp h).2 (List.pairwise_cons.mp k).2]
/-- the tuples of xs in order, each once -/
def setI (xs : List (List Int)) : List (List Int) := xs.eraseDups.mergeSort leI
def sortSetD : D → Option D
  | .list ds => match itsD ds with
    | some ns => if ds.length < 64 ∧ srtOk ds = true then some (.list ((setI ns).map tupI)) else none
    | none => none
  | _ => none
theorem isIT_eq {d : D} {ns : List Int} (h : isIT d = some ns) : d = tupI ns := by
  unfold isIT at h
  split at h
  · rename_i ds
    have : ∀ (ds : List D) (ns : List Int), intsD ds = some ns → ds = ns.map PyData.int := by
      intro ds
      induction ds with
      | nil => intro ns e; unfold intsD at e; cases e; rfl
      | cons d ds ih =>
        intro ns e
        unfold intsD at e
        split at e
        · rename_i h1; cases h1
        · rename_i h1
          cases h1
          obtain ⟨r, e1, e2⟩ := Option.map_eq_some_iff.mp e
          subst e2
          rw [List.map_cons, ih r e1]
        · cases e
    rw [this ds ns h]
  · cases h
theorem itsD_eq : ∀ {ds : List D} {ns : List (List Int)}, itsD ds = some ns → ds = ns.map tupI
  | [], _, h => by unfold itsD at h; cases h; rfl
  | d :: r, _, h => by
    unfold itsD at h
    obtain ⟨n, e1, e2⟩ := Option.bind_eq_some_iff.mp h
    obtain ⟨l, e3, e4⟩ := Option.map_eq_some_iff.mp e2
    subst e4
    rw [List.map_cons, isIT_eq e1, itsD_eq e3]
end DP
set_option Elab.async false
set_option linter.all false
set_option maxRecDepth 100000
/-! DP, part 17: sorted(set(xs)), the walk. -/
namespace DP
open PySem PySem.Spec PyProof.Rows L2

theorem reads_tupI {P : Program} {w : World} {h : Heap} {k : List Int} {b : Addr} (x : IsT P w h k b) : ∃ as, Reads h (.ref b) (tupI k) as ∧ as = [] := by
  obtain ⟨o, items, n, ho, hc, hd, hi⟩ := x
  have all : ∀ {k : List Int} {vs : List Value}, ItemsAre (intKind P w) k vs → ReadsAll h vs (k.map PyData.int) [] := by
    intro k vs hi
    induction hi with
    | nil => exact .nil
    | @cons k0 v ks vs h1 _ ih =>
      obtain ⟨t, rfl⟩ := Value.isInt_shape h1
      exact .cons (as := []) (bs := []) (.int k0 t) ih
  exact ⟨[], .tuple ho hc hd (all hi), rfl⟩
/-- sorted(s) of a set of tuples of ints -/
def rSortedSet (K : PySem.W.Frag) (P : Program) (w : World) : List V → Hp → VK → Prop := fun vs H Q => ∃ (a : Addr) (L : List (Addr × List Int)), vs = [V.ref a] ∧ H a = some (SetTO P w a L) ∧ (∀ p ∈ L, SqT K H p.1 (p.2.map V.int)) ∧ srtOk (L.map fun p => tupI p.2) = true ∧
  ∀ (L' : List (Addr × List Int)) (p : Addr), L'.Perm L → (L'.map (·.2)).Nodup → (L'.map (·.2)).Pairwise (fun q r => leI q r = true) → H p = none → Q (.ref p) (upd H p (.lst (L'.map fun q => V.ref q.1)))
section
variable {X : Cx} {Wx : WX}
theorem srtOk_perm {xs ys : List D} (p : ∀ x ∈ ys, x ∈ xs) (h : srtOk xs = true) : srtOk ys = true := by
  simp only [srtOk, Bool.and_eq_true, Bool.or_eq_true, List.all_eq_true] at h ⊢
  exact ⟨⟨fun x hx y hy => h.1.1 x (p x hx) y (p y hy), h.1.2.imp (fun q x hx => q x (p x hx)) fun q x hx => q x (p x hx)⟩, fun x hx => h.2 x (p x hx)⟩
theorem cr_sortedSetT (hc : X.calm = true) (hu : X.A.units + 64 < cLine) : CallR X (.builtin "sorted") (rSortedSet X.K X.prog X.w) := by
  intro pins s σ H vs us Q I r h
  obtain ⟨a, L, rfl, ha, hk, ok, q⟩ := h
  have R0 : SetT0 X.prog X.w s.heap a L := (I.hok a _ ha).1
  obtain ⟨es, ep, t, R⟩ := R0.full fun p hp => I.isT (hk p hp)
  rw [Vals.ref1 r]
  obtain ⟨o, ho, hex, hd⟩ := R.ob
  have hsz := R.size
  have hfew := R.few
  refine Calls.call_function_entry kind_sorted plain_sorted entry_sorted (args_sorted1 _) ?_
  unfold Builtin.«sorted»
  refine wpAny_bind (m := checkCount "sorted" 1 1 _) (wpAny_pure ?_)
  refine wpAny_bind (collect_set (A := X.A.in1) (I.ok.hd hc) ⟨o, ho, hex.1, hd⟩ R.fits (by unfold scanBound; omega) R.tab.ris R.led fun s1 vs k1 hz g1 o1 pm => ?_)
  have hes : es.toList.map (·.2) = L.map fun q => Value.ref q.1 := by
    rw [R.rows]
    unfold rowsOf
    rw [List.map_map] <;> rfl
  rw [hes] at pm
  -- what was collected: the rows, turned somehow
  have ord : ∀ vs : List Value, (∀ v ∈ vs, ∃ q ∈ L, v = Value.ref q.1) → ∃ L1 : List (Addr × List Int), vs = L1.map (fun q => Value.ref q.1) ∧ ∀ q ∈ L1, q ∈ L := by
    intro vs
    induction vs with
    | nil => exact fun _ => ⟨[], rfl, fun q hq => nomatch hq⟩
    | cons v vs ih =>
      intro hv
      obtain ⟨q, hq, rfl⟩ := hv v List.mem_cons_self
      obtain ⟨L1, rfl, hs⟩ := ih fun u hu => hv u (List.mem_cons_of_mem _ hu)
      exact ⟨q :: L1, rfl, fun r hr => (List.mem_cons.mp hr).elim (fun z => z ▸ hq) (hs r)⟩
  have one : ∀ q ∈ L, ∀ r ∈ L, q.1 = r.1 → q = r := fun q hq r hr e => by
    have a1 := R.tup q hq
    have a2 := R.tup r hr
    rw [e] at a1
    exact Prod.ext e (a1.inj a2)
  have nL : L.Nodup := nodup_of_map R.nd
  have perm_of : ∀ L1 : List (Addr × List Int), (∀ q ∈ L1, q ∈ L) → (L1.map (fun q => Value.ref q.1)).Perm (L.map fun q => Value.ref q.1) → L1.Perm L := by
    intro L1 hs pm1
    have nref : (L.map fun q => Value.ref q.1).Nodup := by
      refine List.pairwise_map.mpr (List.Pairwise.imp_of_mem (fun {q r} hq hr hne e => ?_) nL)
      injection e with e
      exact hne (one q hq r hr e)
    refine (List.perm_ext_iff_of_nodup (nodup_of_map (pm1.nodup_iff.mpr nref)) nL).mpr fun q => ⟨hs q, fun hq => ?_⟩
    obtain ⟨r, hr, e⟩ := List.mem_map.mp (pm1.mem_iff.mpr (List.mem_map.mpr ⟨q, hq, rfl⟩))
    injection e with e
    rw [← one r (hs r hr) q hq e]
    exact hr
  obtain ⟨L1, rfl, hs1⟩ := ord vs fun v hv => by
    obtain ⟨q, hq, e⟩ := List.mem_map.mp (pm.mem_iff.mp hv)
    exact ⟨q, hq, e.symm⟩
  have p1 : L1.Perm L := perm_of L1 hs1 pm
  have hl1 : L1.length < 64 := by rw [p1.length_eq]; exact hfew
  refine wpAny_bind (wpAny_newList ?_ (by rw [List.length_map, sizeLine_eq]; omega))
  have hoL : (s1.heap.push (seqObj "list" (L1.map fun q => Value.ref q.1).toArray 0)).get? s1.heap.objs.size = some (seqObj "list" (L1.map fun q => Value.ref q.1).toArray 0) := Heap.get?_push_size _ rfl
  have ok1 : srtOk (L1.map fun p => tupI p.2) = true := srtOk_perm (fun x hx => by
    obtain ⟨q, hq, rfl⟩ := List.mem_map.mp hx
    exact List.mem_map.mpr ⟨q, hs1 q hq, rfl⟩) ok
  have each : ∀ L2 : List (Addr × List Int), (∀ q ∈ L2, q ∈ L) → PySem.W.EachIs (fun (v : Value) (b : Addr × List Int) => v = .ref b.1) (L2.map fun q => Value.ref q.1) L2 ∧
      PySem.W.EachIs (fun v b => ∃ as, Reads (s1.heap.push (seqObj "list" (L1.map fun q => Value.ref q.1).toArray 0)) v (tupI b.2) as ∧ s1.heap.objs.size ∉ as) (L2.map fun q => Value.ref q.1) L2 := by
    intro L2
    induction L2 with
    | nil => exact fun _ => ⟨.nil, .nil⟩
    | cons q L2 ih =>
      intro hq
      obtain ⟨a1, a2⟩ := ih fun r hr => hq r (List.mem_cons_of_mem _ hr)
      obtain ⟨as, ra, rfl⟩ := reads_tupI (P := X.prog) (w := X.w) (isT_keep (h' := s1.heap.push (seqObj "list" (L1.map fun q => Value.ref q.1).toArray 0)) (R.tup q (hq q List.mem_cons_self)) fun b u e => Heap.get?_push_of_some _ (k1 b u e))
      exact ⟨.cons rfl a1, .cons ⟨[], ra, fun z => nomatch z⟩ a2⟩
  obtain ⟨ea, eb⟩ := each L1 hs1
  have al : PySem.W.AllAlike (L1.map fun p => tupI p.2) := by
    have := srtOk_alike ok1
    rwa [List.map_id] at this
  have so : PySem.W.Sortable (L1.map fun p => tupI p.2) := by
    have := srtOk_sortable ok1
    rwa [List.map_id] at this
  refine wpAny_bind (wpAny_holding (PySem.W.list_sort_data (s := { s1 with heap := s1.heap.push (seqObj "list" (L1.map fun q => Value.ref q.1).toArray 0) }) (bs := L1) (enc := fun p => tupI p.2) (R := fun v b => v = .ref b.1) hoL ea eb al so
    (by rw [sizeLine_eq]; omega) (fun b hb => ?_) fun out hl he => ?_))
  · have h60 := srtOk_depth ok1 _ (List.mem_map.mpr ⟨b, hb, rfl⟩)
    show X.A.units + 1 + 1 + (tupI b.2).depth < cLine
    omega
  · have eo : out = (L1.mergeSort (PySem.W.dataLe false fun p => tupI p.2)).map fun q => Value.ref q.1 := by
      have : ∀ {vs : List Value} {L2 : List (Addr × List Int)}, PySem.W.EachIs (fun (v : Value) (b : Addr × List Int) => v = .ref b.1) vs L2 → vs = L2.map fun q => Value.ref q.1 := by
        intro vs L2 h
        induction h with
        | nil => rfl
        | cons e _ ih => rw [List.map_cons, ← ih, e]
      exact this he
    subst eo
    obtain ⟨c, hcc⟩ := sortedHeap_at (vs := L1.map fun q => Value.ref q.1) (out := ((L1.mergeSort (PySem.W.dataLe false fun p => tupI p.2)).map fun q => Value.ref q.1).toArray) hoL
    have hp : H s1.heap.objs.size = none := I.hok.fresh hz
    have pm' : (L1.mergeSort (PySem.W.dataLe false fun p => tupI p.2)).Perm L := (List.mergeSort_perm _ _).trans p1
    have srt : (L1.mergeSort (PySem.W.dataLe false fun p => tupI p.2)).Pairwise fun q r => PySem.W.dataLe false (fun p : Addr × List Int => tupI p.2) q r = true := by
      have e : ∀ q r : Addr × List Int, PySem.W.dataLe false (fun p => tupI p.2) q r = leI q.2 r.2 := fun q r => dLe_tupI q.2 r.2
      refine List.pairwise_mergeSort (fun a b c h k => ?_) (fun a b => ?_) _
      · rw [e] at h k ⊢; exact leI_trans _ _ _ h k
      · rw [e, e]; exact leI_total _ _
    have keep : ∀ b u, s.heap.get? b = some u → (sortedHeap (s1.heap.push (seqObj "list" (L1.map fun q => Value.ref q.1).toArray 0)) s1.heap.objs.size (L1.map fun q => Value.ref q.1) ((L1.mergeSort (PySem.W.dataLe false fun p => tupI p.2)).map fun q => Value.ref q.1).toArray).get? b = some u := fun b u e => by
      have q := k1 b u e
      have hlt := Heap.lt_size q
      rw [sortedHeap_old (Nat.ne_of_lt hlt) (by rw [size_push']; exact Nat.lt_succ_of_lt hlt)]
      exact Heap.get?_push_of_some _ q
    have hlen : ((L1.mergeSort (PySem.W.dataLe false fun p => tupI p.2)).map fun q => V.ref q.1).length ≤ sizeLine := by rw [List.length_map, List.length_mergeSort, sizeLine_eq]; omega
    refine wpAny_pure ⟨_, rfl, ?_⟩
    have hv : Vals ((L1.mergeSort (PySem.W.dataLe false fun p => tupI p.2)).map fun q => V.ref q.1) ((L1.mergeSort (PySem.W.dataLe false fun p => tupI p.2)).map fun q => Value.ref q.1) := vals_of_refs _
    have J := I.call (H' := upd H s1.heap.objs.size (.lst ((L1.mergeSort (PySem.W.dataLe false fun p => tupI p.2)).map fun q => V.ref q.1))) (g' := s1.gens) (t' := s1.toks) (d' := s1.drawn) (ch := []) (Un.laid keep hz hp) (I.hok.laid keep hz ⟨hlen, _, c, hv, hcc⟩) (by rw [g1]; exact I.bare) (fun _ z => nomatch z)
    have nd : ((L1.mergeSort (PySem.W.dataLe false fun p => tupI p.2)).map (·.2)).Nodup := (pm'.map (·.2)).nodup_iff.mpr R.nd
    have pw : ((L1.mergeSort (PySem.W.dataLe false fun p => tupI p.2)).map (·.2)).Pairwise (fun q r => leI q r = true) := List.pairwise_map.mpr (srt.imp fun {q r} z => by rw [← dLe_tupI]; exact z)
    have goal : EP X pins σ Q (.ref s1.heap.objs.size) { s with heap := sortedHeap (s1.heap.push (seqObj "list" (L1.map fun q => Value.ref q.1).toArray 0)) s1.heap.objs.size (L1.map fun q => Value.ref q.1) ((L1.mergeSort (PySem.W.dataLe false fun p => tupI p.2)).map fun q => Value.ref q.1).toArray, gens := s1.gens, drawn := s1.drawn, toks := s1.toks } :=
      ⟨.ref s1.heap.objs.size, _, J, rfl, q _ _ pm' nd pw hp⟩
    have eo : s1.os = s.os := o1
    cases s1
    cases s
    cases eo
    exact goal
theorem nodup_dups {α : Type} [BEq α] [LawfulBEq α] : ∀ (n : Nat) (xs : List α), xs.length ≤ n → xs.eraseDups.Nodup
  | _, [], _ => by simp
  | 0, x :: xs, h => by simp at h
  | n + 1, x :: xs, h => by
    rw [List.eraseDups_cons, List.nodup_cons]
    refine ⟨fun z => ?_, nodup_dups n _ (Nat.le_trans (List.length_filter_le _ _) (by simpa using h))⟩
    have := List.mem_eraseDups.mp z
    simp at this
theorem perm_dups {xs ys : List (List Int)} (n : ys.Nodup) (h1 : ∀ x ∈ ys, x ∈ xs) (h2 : ∀ x ∈ xs, x ∈ ys) : ys.Perm xs.eraseDups :=
  (List.perm_ext_iff_of_nodup n (nodup_dups _ xs (Nat.le_refl _))).mpr fun x => by rw [List.mem_eraseDups]; exact ⟨h1 x, h2 x⟩
def xSortSet (f : XF) : XF := x1 sortSetD f
theorem en_sortSet {e : Expr} {f : XF} {p p2 q pos : Pos} (hc : X.calm = true) (hu : X.A.units + 64 < cLine) (hg : Gl X "sorted") (hm : X.mg "sorted" = none) (hg2 : Gl X "set") (hm2 : X.mg "set" = none) (he : EX X Wx e f)
    (hs : starEach [e] X.env = (false, eval e X.env) :: starEach [] X.env := by rfl)
    (hs2 : starEach [.Call (.Name "set" p2) [e] [] q] X.env = (false, eval (.Call (.Name "set" p2) [e] [] q) X.env) :: starEach [] X.env := by rfl) :
    EN X Wx (.Call (.Name "sorted" p) [.Call (.Name "set" p2) [e] [] q] [] pos) (xSortSet f) := by
  have hset : PE X (.Call (.Name "set" p2) [e] [] q) (tCB (rSetOfT X.K X.prog X.w) (tCons _ tNil)) := pe_callTy (cr_setOfT hc hu) hg2 hm2 (by rfl) (pa_cons he pa_nil hs) (by decide) (by decide) hs (by rfl)
  refine PE.wk (pe_callB (cr_sortedSetT hc hu) hg hm (by rfl) (pa_cons hset pa_nil hs2) (by decide) (by decide) hs2 (by rfl)) ?_
  rintro σ H Q ⟨ρ, W, env, A, S, h⟩
  refine tN_then S h fun d W1 H1 env1 A1 v S1 F1 r1 h1 => ?_
  simp only at h1
  unfold sortSetD at h1
  split at h1
  · rename_i d' ds
    simp only [Rep] at r1
    obtain ⟨a, vs, rfl, q1, l⟩ := r1
    split at h1
    · rename_i ns en
      split at h1
      · rename_i c
        have eds := itsD_eq en
        subst eds
        obtain ⟨ks, rfl, k1, k2⟩ : ∃ ks : List (Addr × List Int), vs = ks.map (fun p => V.ref p.1) ∧ ks.map (·.2) = ns ∧ ∀ p ∈ ks, SqT X.K W1 p.1 (p.2.map V.int) := by
          clear h1 en c q1
          induction ns generalizing vs with
          | nil => simp only [List.map_nil, RepL] at l; subst l; exact ⟨[], rfl, rfl, fun p hp => nomatch hp⟩
          | cons n ns ih =>
            simp only [List.map_cons, RepL, Rep] at l
            obtain ⟨v, r, rfl, ⟨b, us, rfl, hb, lb⟩, l2⟩ := l
            obtain ⟨ks, rfl, e1, e2⟩ := ih _ l2
            have eus : us = n.map V.int := by
              clear hb
              induction n generalizing us with
              | nil => simp only [List.map_nil, RepL] at lb; exact lb
              | cons i n ih2 =>
                simp only [List.map_cons, RepL, Rep] at lb
                obtain ⟨_, r2, rfl, rfl, lb2⟩ := lb
                rw [ih2 _ lb2, List.map_cons]
            subst eus
            exact ⟨(b, n) :: ks, rfl, by rw [List.map_cons, e1], fun p hp => (List.mem_cons.mp hp).elim (fun z => z ▸ hb) (e2 p)⟩
        refine ⟨a, ks, rfl, .of (S1.sub _ _ q1), fun p hp => Same.sqt S1.sub (k2 p hp), by rw [← k1, List.length_map, List.length_map] at c; exact c.1, fun b L hb hL1 hL2 => ?_⟩
        refine ⟨b, L, rfl, upd_same, fun p hp => ?_, srtOk_perm (fun x hx => ?_) c.2, fun L' p' pm nd pw hp' => ?_⟩
        · exact Same.sqt (fun c u z => by rw [upd_ne (ne_of_none z hb)]; exact z) (Same.sqt S1.sub (k2 p (hL1 p hp)))
        · obtain ⟨p, hp, rfl⟩ := List.mem_map.mp hx
          rw [← k1]
          exact List.mem_map.mpr ⟨p.2, List.mem_map.mpr ⟨p, hL1 p hp, rfl⟩, rfl⟩
        · have e : L'.map (·.2) = setI ns := by
            refine sorted_one (le := leI) (fun a b => leI_anti) ?_ pw (List.pairwise_mergeSort (fun a b c h k => leI_trans a b c h k) (fun a b => leI_total a b) _)
            refine List.Perm.trans ?_ (List.mergeSort_perm _ _).symm
            refine perm_dups nd (fun x hx => ?_) fun x hx => ?_
            · obtain ⟨p, hp, rfl⟩ := List.mem_map.mp hx
              rw [← k1]
              exact List.mem_map.mpr ⟨p, hL1 p (pm.mem_iff.mp hp), rfl⟩
            · rw [← k1] at hx
              obtain ⟨p, hp, rfl⟩ := List.mem_map.mp hx
              exact (pm.map (·.2)).mem_iff.mpr (hL2 p hp)
          have rl : RepL X.K X.w W1 ((setI ns).map tupI) (L'.map fun q => V.ref q.1) := by
            rw [← e]
            have : ∀ L2 : List (Addr × List Int), (∀ p ∈ L2, SqT X.K W1 p.1 (p.2.map V.int)) → RepL X.K X.w W1 ((L2.map (·.2)).map tupI) (L2.map fun q => V.ref q.1) := by
              intro L2
              induction L2 with
              | nil => exact fun _ => RepL.nil
              | cons p L2 ih =>
                intro hp
                refine RepL.cons ?_ (ih fun q hq => hp q (List.mem_cons_of_mem _ hq))
                simp only [Rep]
                refine ⟨p.1, _, rfl, hp p List.mem_cons_self, ?_⟩
                generalize p.2 = n
                induction n with
                | nil => exact RepL.nil
                | cons i n ih => exact RepL.cons rfl ih
            exact this L' fun p hp => k2 p (hL1 p (pm.mem_iff.mp hp))
          have h2 := onW_of S1 h1
          have e2 : Ex W1 H1 W1 (upd H1 b (SetTO X.prog X.w b L)) := Ex.junk S1.sub hb
          have n2 : H1 p' = none := by
            by_cases z : p' = b
            · rw [z]; exact hb
            · rwa [upd_ne z] at hp'
          have e3 := e2.trans (Ex.junk (p := p') (o := .lst (L'.map fun q => V.ref q.1)) e2.sub hp')
          exact h2 W1 _ p' e3 (S1.sub.free n2) ⟨_, upd_same, rl⟩ n2
      · exact h1.elim
    · exact h1.elim
  · exact h1.elim
end
end DP
set_option Elab.async false
set_option linter.all false
set_option maxRecDepth 100000
/-! DP, part 18: dicts made of pairs; d[k] = v; k in d; d.get; sorted(d.items()). -/
namespace DP
open PySem PySem.Spec PyProof.Rows L2

/-! ### d[k] = v on data -/
def dPut (kvs : List (D × D)) (k v : D) : List (D × D) := if kvs.any (kIs k) = true then kvs.map (fun p => if kIs k p = true then (p.1, v) else p) else kvs ++ [(k, v)]
theorem map_modify {α β : Type} [DecidableEq β] (f : α → β) (g : α → α) : ∀ {l : List α} {j : Nat} {p : α}, (l.map f).Nodup → l[j]? = some p → l.map (fun q => if decide (f q = f p) = true then g q else q) = l.modify j g
  | [], _, _, _, h => by simp at h
  | q :: l, 0, p, n, h => by
    cases h
    rw [List.map_cons, List.nodup_cons] at n
    rw [List.map_cons, if_pos (by simp), List.modify_zero_cons]
    congr 1
    conv => rhs; rw [← List.map_id l]
    refine List.map_congr_left fun r hr => ?_
    rw [if_neg (by
      simp only [decide_eq_true_eq]
      exact fun z => n.1 (by rw [← z]; exact List.mem_map.mpr ⟨r, hr, rfl⟩))]
    rfl
  | q :: l, j + 1, p, n, h => by
    rw [List.map_cons, List.nodup_cons] at n
    have h' : l[j]? = some p := by simpa using h
    rw [List.map_cons, List.modify_succ_cons, if_neg (by
      simp only [decide_eq_true_eq]
      exact fun z => n.1 (by rw [z]; exact List.mem_map.mpr ⟨p, List.mem_of_getElem? h', rfl⟩)), map_modify f g n.2 h']
theorem dPut_keys {kvs : List (D × D)} {k v : D} (n : (kvs.map fun p => keyD p.1).Nodup) : ((dPut kvs k v).map fun p => keyD p.1).Nodup := by
  unfold dPut
  split
  · rw [List.map_map]
    have : ((fun p : D × D => keyD p.1) ∘ fun p => if kIs k p = true then (p.1, v) else p) = fun p => keyD p.1 := by
      funext p
      simp only [Function.comp]
      split <;> rfl
    rw [this]
    exact n
  · rename_i c
    rw [List.map_append, List.nodup_append]
    refine ⟨n, by simp, ?_⟩
    intro a ha b hb
    simp only [List.map_cons, List.map_nil, List.mem_singleton] at hb
    subst hb
    rintro rfl
    obtain ⟨p, hp, e⟩ := List.mem_map.mp ha
    exact c (List.any_eq_true.mpr ⟨p, hp, decide_eq_true e⟩)
theorem dPut_len (kvs : List (D × D)) (k v : D) : (dPut kvs k v).length ≤ kvs.length + 1 := by
  unfold dPut
  split
  · rw [List.length_map]; omega
  · rw [List.length_append, List.length_singleton]; omega
section
variable {K : PySem.W.Frag} {w : World} {W : Hp}
theorem RepKV.snoc : ∀ {kvs : List (D × D)} {es : List DictEntry} {k v : D} {e : DictEntry}, RepKV K w W kvs es → (∃ kk, keyD k = some kk ∧ kk.depth ≤ 8 ∧ e.hash = kk.hash w) → (∃ x, RelV x e.key ∧ Rep K w W k x) → (∃ y, RelV y e.val ∧ Rep K w W v y) → RepKV K w W (kvs ++ [(k, v)]) (es ++ [e])
  | [], _, k, v, e, h, a, b, c => by
    simp only [RepKV] at h
    subst h
    simp only [List.nil_append, RepKV]
    exact ⟨e, [], rfl, a, b, c, rfl⟩
  | (k', d) :: r, _, k, v, e, h, a, b, c => by
    simp only [RepKV] at h
    obtain ⟨en, q, rfl, h1, h2, h3, h4⟩ := h
    simp only [List.cons_append, RepKV]
    exact ⟨en, q ++ [e], rfl, h1, h2, h3, RepKV.snoc h4 a b c⟩
theorem RepKV.modify : ∀ {kvs : List (D × D)} {es : List DictEntry} {j : Nat} {v : D} {y : V} {u : Value}, RepKV K w W kvs es → RelV y u → Rep K w W v y → RepKV K w W (kvs.modify j fun p => (p.1, v)) (es.modify j fun e => { e with val := u })
  | [], _, j, _, _, _, h, _, _ => by simp only [RepKV] at h; subst h; simp [RepKV]
  | (k, d) :: r, _, 0, v, y, u, h, a, b => by
    simp only [RepKV] at h
    obtain ⟨en, q, rfl, h1, h2, h3, h4⟩ := h
    simp only [List.modify_zero_cons, RepKV]
    exact ⟨_, q, rfl, h1, h2, ⟨y, a, b⟩, h4⟩
  | (k, d) :: r, _, j + 1, v, y, u, h, a, b => by
    simp only [RepKV] at h
    obtain ⟨en, q, rfl, h1, h2, h3, h4⟩ := h
    simp only [List.modify_succ_cons, RepKV]
    exact ⟨en, _, rfl, h1, h2, h3, RepKV.modify h4 a b⟩
/-- the entries behind d[k] = v show the data behind it -/
theorem RepKV.put {kvs : List (D × D)} {es : List DictEntry} {ks : List NestedKey} {k v : D} {kk : NestedKey} {r : Option Nat} {x y : V} {u z : Value} (h : RepKV K w W kvs es) (nd : (kvs.map fun p => keyD p.1).Nodup) (ek : kvs.map (fun p => keyD p.1) = ks.map some) (hk : keyD k = some kk) (dk : kk.depth ≤ 8) (hit : Hit ks kk r)
    (rx : RelV x u) (rk : Rep K w W k x) (ry : RelV y z) (rv : Rep K w W v y) : RepKV K w W (dPut kvs k v) (putE es r (kk.hash w) u z) := by
  cases r with
  | none =>
    unfold dPut putE
    rw [if_neg (by rw [(hit_none ek hk hit).2]; exact Bool.false_ne_true)]
    exact h.snoc ⟨kk, hk, dk, rfl⟩ ⟨x, rx, rk⟩ ⟨y, ry, rv⟩
  | some j =>
    obtain ⟨p, h1, h2, _, h4⟩ := hit_some ek nd hk hit
    unfold dPut putE
    rw [if_pos h4]
    have e : kvs.map (fun p => if kIs k p = true then (p.1, v) else p) = kvs.modify j fun p => (p.1, v) := by
      rw [← map_modify (fun p : D × D => keyD p.1) (fun p => (p.1, v)) nd h1]
      refine List.map_congr_left fun q _ => ?_
      unfold kIs
      rw [h2]
    rw [e]
    exact h.modify ry rv
theorem RepKV.ents' {h : Heap} (nest : ∀ d v u k, Rep K w W d v → RelV v u → keyD d = some k → NestedIs h k u) {kvs : List (D × D)} {es : Array DictEntry} (r : RepKV K w W kvs es.toList) (nd : (kvs.map fun p => keyD p.1).Nodup) :
    ∃ ks : List NestedKey, kvs.map (fun p => keyD p.1) = ks.map some ∧ Ents w h ks es := by
  obtain ⟨ks, e⟩ := r.keys
  refine ⟨ks, e, ?_, fun i en he => ?_, ?_⟩
  · have h1 := congrArg List.length e
    have h2 := r.len
    rw [Array.length_toList] at h2
    simp only [List.length_map] at h1
    omega
  · obtain ⟨k, v, q1, ⟨kk, q2, q3, q4⟩, ⟨x, q5, q6⟩, _⟩ := r.at (j := i) (e := en) (by rw [Array.getElem?_toList]; exact he)
    refine ⟨kk, ?_, nest _ _ _ _ q6 q5 q2, q3, q4⟩
    have := congrArg (fun l => l[i]?) e
    simp only [List.getElem?_map, q1, Option.map_some, q2] at this
    cases hk : ks[i]? with
    | none => rw [hk] at this; cases this
    | some z => rw [hk] at this; cases this; rfl
  · rw [e] at nd
    exact List.Pairwise.of_map some (fun a b h z => h (congrArg some z)) nd
theorem dicO_new {P : Program} {H : Hp} {h : Heap} {a : Addr} {es : Array DictEntry} {ep : Nat} (hs : (a == sysModules) = false) (hz : es.size ≤ sizeLine) (ho : h.get? a = some (dobj es ep)) : ObjOk P w H h a (dicO a es ep) :=
  ⟨⟨hs, hz, ho⟩, ⟨_, ho⟩, fun _ _ ⟨q1, q2, q3⟩ k => ⟨q1, q2, k _ q3⟩⟩
end

/-! ### dict(xs), xs a list of pairs -/
def pairD : D → Option (D × D)
  | .tuple [k, v] => if keyOk k = true then some (k, v) else none
  | _ => none
def pairsD : List D → Option (List (D × D))
  | [] => some []
  | d :: r => (pairD d).bind fun p => (pairsD r).map fun l => p :: l
def dMerge (kvs more : List (D × D)) : List (D × D) := more.foldl (fun acc p => dPut acc p.1 p.2) kvs
theorem dMerge_len : ∀ (more kvs : List (D × D)), (dMerge kvs more).length ≤ kvs.length + more.length
  | [], kvs => Nat.le_refl _
  | p :: r, kvs => by
    have h1 := dMerge_len r (dPut kvs p.1 p.2)
    have h2 := dPut_len kvs p.1 p.2
    show (dMerge (dPut kvs p.1 p.2) r).length ≤ _
    rw [List.length_cons]
    omega
section
variable {P : Program} {w : World} {A : Around} {E : Value → Shared → Prop} {K : PySem.W.Frag} {W : Hp}
/-- what is known of a row of pairs -/
def PairsAt (K : PySem.W.Frag) (w : World) (W : Hp) (h : Heap) (items : List Value) (ps : List (D × D)) : Prop :=
  ∀ (j : Nat) (p : D × D), ps[j]? = some p → ∃ (b : Addr) (u z : Value) (x y : V), items[j]? = some (.ref b) ∧ IsTup h b #[u, z] ∧ RelV x u ∧ Rep K w W p.1 x ∧ RelV y z ∧ Rep K w W p.2 y ∧ keyOk p.1 = true
theorem dset0 {s : Shared} {a : Addr} {es : Array DictEntry} {ep : Nat} {ks : List NestedKey} {k : NestedKey} {u v : Value} (N : Ents w s.heap ks es) (hu : A.units + 8 < cLine) (ho : s.heap.get? a = some (dobj es ep)) (hz : es.size ≤ sizeLine) (hk : NestedIs s.heap k u) (dk : k.depth ≤ 8) {Q : Unit → Shared → Prop}
    (h : ∀ h' es' ep' r t, Hit ks k r → h'.get? a = some (dobj es' ep') → Heap.SameBut a s.heap h' → es'.toList = putE es.toList r (k.hash w) u v → Q () { s with heap := h', toks := t }) :
    wpAny (model P w) A (dictSet a u v) Q E s := by
  unfold dictSet
  try with_reducible refine wpAny_holding ?_
  refine wpAny_bind (pyHash_key k u _ s _ hk (by omega) ?_)
  exact dSetHashed (s := { s with toks := s.toks + k.draws }) N hu ho hz hk dk fun h' es' ep' r hr e1 e2 e3 => h h' es' ep' r _ hr e1 e2 e3
theorem pairs_loop {R : Result → Shared → Prop} {S I l : Addr} {items : Array Value} {res : Value} {h0 : Heap} (hh : A.handled = none) (hu : A.units + 16 < cLine) (hlI : l ≠ I) (hSI : S ≠ I) (hSl : S ≠ l) (hsz0 : items.size ≤ sizeLine) (hS0 : h0.get? S = none) (hI0 : h0.get? I = none)
    (nest : ∀ d v u k, Rep K w W d v → RelV v u → keyD d = some k → NestedIs h0 k u) :
    ∀ (rest : List (D × D)) (i : Nat) (acc : List (D × D)) (es : Array DictEntry) (ep : Nat) (ix : Int) (t : Tok) (s : Shared), items.size = i + rest.length → acc.length ≤ i → PairsAt K w W h0 (items.toList.drop i) rest →
      (∀ b o, h0.get? b = some o → s.heap.get? b = some o) → s.heap.IsListIter I l i → s.heap.IsList l items → s.heap.get? S = some (dobj es ep) → RepKV K w W acc es.toList → (acc.map fun p => keyD p.1).Nodup →
      (∀ h' tk es' ep', (∀ b o, h0.get? b = some o → h'.get? b = some o) → h'.get? S = some (dobj es' ep') → RepKV K w W (dMerge acc rest) es'.toList → ((dMerge acc rest).map fun p => keyD p.1).Nodup → R (.ok (.ret res)) { s with heap := h', toks := tk }) →
      codeAny (model P w) A (.builtin "dict.update.loop" ⟨[.ref S, .ref I, .int ix t, res], []⟩) R s
  | [], i, acc, es, ep, ix, t, s, hsz, hla, hp, hk, hit, hl, hS, hr, hn, hR => by
    refine codeAny_builtin ud_entry ?_
    rw [Around.under_plainId ud_plain _]
    show wpAny _ A.in1 (pyNext (.ref I) >>= _) _ _ s
    refine wpAny_bind (wpAny_pyNext_list_end (A := A.in1) hh hit hl (Array.getElem?_eq_none (by rw [hsz]; simp)) fun h' he => ?_)
    show wpAny _ A.in1 (Builtin.Dict.addKeywords S [] >>= _) _ _ _
    refine wpAny_bind (wpAny_pure (wpAny_pure ?_))
    exact hR h' s.toks es ep (fun b o e => he b o (fun z => by rw [z, hI0] at e; cases e) (hk b o e)) (he S _ hSI hS) hr hn
  | q :: rest, i, acc, es, ep, ix, t, s, hsz, hla, hp, hk, hit, hl, hS, hr, hn, hR => by
    obtain ⟨b, u, z, x, y, hb, ht, rx, rk, ry, rv, ok⟩ := hp 0 q rfl
    obtain ⟨kk, k1, k2⟩ := keyOk_iff ok
    rw [List.length_cons] at hsz
    have hb' : items[i]? = some (.ref b) := by
      rw [← Array.getElem?_toList]
      simpa using hb
    refine codeAny_builtin ud_entry ?_
    rw [Around.under_plainId ud_plain _]
    show wpAny _ A.in1 (pyNext (.ref I) >>= _) _ _ s
    refine wpAny_bind (wpAny_pyNext_list_item (x := .ref b) hit hl hb' fun h1 hit1 hs1 => ?_)
    have k1' : ∀ c o, h0.get? c = some o → h1.get? c = some o := fun c o e => hs1.extBut c o (fun z => by rw [z, hI0] at e; cases e) (hk c o e)
    have ht1 : IsTup h1 b #[u, z] := ht.keeps k1'
    obtain ⟨o, ho, hc, n, hd⟩ := id ht1
    show wpAny _ A.in1 (holding [Value.ref b] _ >>= _) _ _ _
    refine wpAny_bind (wpAny_holding ?_)
    refine wpAny_bind (wpAny_tryCatch ?_)
    unfold Builtin.Dict.pairItems
    refine wpAny_bind (wpAny_typeOf (T := "tuple") ⟨o, ho, hc⟩ ?_)
    rw [if_pos (by first | decide | rfl | simp)]
    refine wpAny_bind (wpAny_seqItems ho hd (wpAny_pure ?_))
    show wpAny _ A.in1 (holding [u, z] (dictSet S u z)) _ _ _
    have nest1 : ∀ d v u k, Rep K w W d v → RelV v u → keyD d = some k → NestedIs h1 k u := fun d v u k a c e => NestedIs.at (fun c o _ _ e _ => k1' c o e) _ _ (nest d v u k a c e)
    obtain ⟨ks, ek, N⟩ := RepKV.ents' nest1 hr hn
    have hsz1 : es.size ≤ sizeLine := by
      have := hr.len
      rw [Array.length_toList] at this
      omega
    have hu1 : A.in1.units + 8 < cLine := by simp only [Around.in1_units]; omega
    refine wpAny_holding (dset0 (s := { s with heap := h1 }) N hu1 (hs1.extBut S _ hSI hS) hsz1 (nest1 _ _ _ _ rk rx k1) k2 fun h2 es2 ep2 r t2 hhit e1 e2 e3 => ?_)
    have k2' : ∀ c o, h0.get? c = some o → h2.get? c = some o := fun c o e => (e2.2 c (fun z => by rw [z, hS0] at e; cases e)).trans (k1' c o e)
    refine wpAny_pure ⟨plainId_quiet ud_plain _, pairs_loop hh hu hlI hSI hSl hsz0 hS0 hI0 nest rest (i + 1) (dPut acc q.1 q.2) es2 ep2 (ix + 1) 0 _ (by omega) (by have := dPut_len acc q.1 q.2; omega) (fun j p e => ?_) k2' ?_ ?_ e1 ?_ (dPut_keys hn) fun h' tk es' ep' a1 a2 a3 a4 => hR h' tk es' ep' a1 a2 a3 a4⟩
    · obtain ⟨b2, u2, z2, x2, y2, hb2, more⟩ := hp (j + 1) p (by simpa using e)
      refine ⟨b2, u2, z2, x2, y2, ?_, more⟩
      rw [List.getElem?_drop] at hb2 ⊢
      rw [show i + 1 + j = i + (j + 1) by omega]
      exact hb2
    · exact hit1.at fun o' e => (e2.2 I (Ne.symm hSI)).trans e
    · exact (hl.extBut hs1.extBut hlI).extBut e2.extBut (Ne.symm hSl)
    · rw [e3]
      exact hr.put hn ek k1 k2 hhit rx rk ry rv
theorem ddict {s : Shared} {l : Addr} {ol : Obj} {items : Array Value} {n : Nat} {ps : List (D × D)} {Q : Value → Shared → Prop} (hh : A.handled = none) (hu : A.units + 17 < cLine) (hl : s.heap.get? l = some ol) (hc : ol.cls = .type "list") (hd : ol.dict = none)
    (hdat : ol.data = .seq items n) (hsz : items.size = ps.length) (hln : items.size ≤ sizeLine) (hp : PairsAt K w W s.heap items.toList ps) (nest : ∀ d v u k, Rep K w W d v → RelV v u → keyD d = some k → NestedIs s.heap k u)
    (h : ∀ h' tk es ep, (∀ b o, s.heap.get? b = some o → h'.get? b = some o) → h'.get? s.heap.objs.size = some (dobj es ep) → RepKV K w W (dMerge [] ps) es.toList → ((dMerge [] ps).map fun p => keyD p.1).Nodup → Q (.ref s.heap.objs.size) { s with heap := h', toks := tk }) :
    wpAny (model P w) A (call (.type "dict") [.ref l]) Q E s := by
  refine callType_codes (Q₁ := fun obj s₁ => obj = .ref s.heap.objs.size ∧ s₁ = { s with heap := s.heap.push (dobj #[] 0) }) PySem.F.kt_called_dict (PySem.F.kt_typeCall_dict_1 _) PySem.F.entry_dict_init (kt_code_dict_new _ ⟨rfl, rfl⟩) ?_
  rintro obj s₁ ⟨rfl, rfl⟩
  have hS0 : (s.heap.push (dobj #[] 0)).get? s.heap.objs.size = some (dobj #[] 0) := Heap.get?_push_size _ rfl
  have T : Shared.TypeIs { s with heap := s.heap.push (dobj #[] 0) } (.ref s.heap.objs.size) "dict" := ⟨_, hS0, rfl⟩
  have k0 : ∀ b o, s.heap.get? b = some o → (s.heap.push (dobj #[] 0)).get? b = some o := fun b o e => Heap.get?_push_of_some _ e
  have out : ∀ b, s.heap.objs.size ≤ b → s.heap.get? b = none := fun b hb => by
    cases q : s.heap.get? b with
    | none => rfl
    | some o => exact absurd (Nat.lt_of_lt_of_le (Heap.lt_size q) hb) (Nat.lt_irrefl _)
  refine ⟨T, PySem.F.args_dict_init_2 _ _, ?_⟩
  unfold Builtin.«dict.__init__»
  refine wpAny_bind ?_
  unfold Builtin.Dict.selfAndRest
  refine wpAny_bind (wpAny_notOrdered_dict T ?_)
  show wpAny _ _ (pure (s.heap.objs.size, [Value.ref l])) _ _ _
  refine wpAny_pure ?_
  show wpAny _ _ (Builtin.Dict.updateFrom "dict.__init__" s.heap.objs.size (.ref l) [] .none) _ _ _
  unfold Builtin.Dict.updateFrom
  refine wpAny_bind (wpAny_typeOf (T := "list") ⟨ol, k0 _ _ hl, hc⟩ ?_)
  rw [if_pos (by first | decide | rfl | simp)]
  refine wpAny_bind (miss_list (k0 _ _ hl) hc hdat hd hh fun h1 tk1 hk1 => ?_)
  rw [if_pos (show (none : Option Value).isNone = true from rfl)]
  refine wpAny_bind (wpAny_rule ?_)
  have hl1 : h1.IsList l items := ⟨ol, hk1 _ _ (k0 _ _ hl), hc, n, hdat⟩
  have hS1 : s.heap.objs.size < h1.objs.size := Heap.lt_size (hk1 _ _ hS0)
  refine wpAny_bind (wpAny_pyIter_list hl1 ?_)
  have k2 : ∀ b o, h1.get? b = some o → (h1.push { cls := .type "list_iterator", data := .fields #[.ref l, .int 0 0] }).get? b = some o := fun b o e => Heap.get?_push_of_some _ e
  have hlt : l < s.heap.objs.size := Heap.lt_size hl
  have key := pairs_loop (P := P) (w := w) (A := A.in1) (K := K) (W := W) (R := wants (fun r s₂ => r = .none ∧ Q (.ref s.heap.objs.size) s₂) E) (S := s.heap.objs.size) (I := h1.objs.size) (l := l) (items := items) (res := Value.none) (h0 := s.heap) hh (by simp only [Around.in1_units]; omega)
    (Nat.ne_of_lt (Nat.lt_trans hlt hS1)) (Nat.ne_of_lt hS1) (Nat.ne_of_gt hlt) hln (out _ (Nat.le_refl _)) (out _ (Nat.le_of_lt hS1)) nest ps 0 [] #[] 0 0 0
    { s with heap := h1.push { cls := .type "list_iterator", data := .fields #[.ref l, .int 0 0] }, toks := tk1 } (by rw [hsz, Nat.zero_add]) (Nat.le_refl _) (by simpa using hp) (fun b o e => k2 _ _ (hk1 _ _ (k0 _ _ e)))
    ⟨_, Heap.get?_push_size _ rfl, rfl, rfl⟩ (hl1.at fun o e => k2 _ _ e) (k2 _ _ (hk1 _ _ hS0)) (by simp [RepKV]) (by simp)
    (fun h' tk es ep a1 a2 a3 a4 => ⟨rfl, h h' tk es ep a1 a2 a3 a4⟩)
  first
    | exact wpAny_pure ⟨plainId_quiet ud_plain _, key⟩
    | exact wpAny_bind (wpAny_pure (wpAny_pure ⟨plainId_quiet ud_plain _, key⟩))
end
def dictD : List D → Option D
  | [.list ds] => (pairsD ds).map fun ps => .dict (dMerge [] ps)
  | _ => none
theorem pairsD_at {K : PySem.W.Frag} {w : World} {W : Hp} : ∀ {ds : List D} {ps : List (D × D)} {vs : List V}, pairsD ds = some ps → RepL K w W ds vs → ps.length = ds.length ∧ ∀ (j : Nat) (p : D × D), ps[j]? = some p → ∃ (a : Addr) (x y : V), vs[j]? = some (.ref a) ∧ SqT K W a [x, y] ∧ Rep K w W p.1 x ∧ Rep K w W p.2 y ∧ keyOk p.1 = true
  | [], _, _, e, _ => by unfold pairsD at e; cases e; exact ⟨rfl, fun j p h => by simp at h⟩
  | d :: r, _, _, e, h => by
    unfold pairsD at e
    obtain ⟨p, e1, e2⟩ := Option.bind_eq_some_iff.mp e
    obtain ⟨l, e3, e4⟩ := Option.map_eq_some_iff.mp e2
    subst e4
    simp only [RepL] at h
    obtain ⟨v, q, rfl, h1, h2⟩ := h
    obtain ⟨f1, f2⟩ := pairsD_at e3 h2
    refine ⟨by simp [f1], fun j z hz => ?_⟩
    cases j with
    | succ j =>
      obtain ⟨a, x, y, g⟩ := f2 j z (by simpa using hz)
      exact ⟨a, x, y, by simpa using g.1, g.2⟩
    | zero =>
      cases hz
      unfold pairD at e1
      split at e1
      · split at e1
        · rename_i k v c
          cases e1
          simp only [Rep, RepL] at h1
          obtain ⟨a, us, rfl, q1, x, _, rfl, r1, y, _, rfl, r2, rfl⟩ := h1
          exact ⟨a, x, y, rfl, q1, r1, r2, c⟩
        · cases e1
      · cases e1
section
variable {X : Cx} {Wx : WX}
theorem onW.dic {W H : Hp} {Q : VK} {kvs : List (D × D)} {es : Array DictEntry} {ep : Nat} {p : Addr} (h : onW X.K X.w W H (some (.dict kvs)) Q) (s : Same W H) (r : RepKV X.K X.w W kvs es.toList) (nd : (kvs.map fun p => keyD p.1).Nodup) (n : H p = none) : Q (.ref p) (upd H p (dicO p es ep)) :=
  h W _ p (Ex.junk s n) (s.free n) ⟨es, ep, upd_same, r, nd⟩ n
theorem cr_dictD (hc : X.calm = true) (hu : X.A.units + 64 < cLine) : CallR X (.type "dict") (tWn X.K X.w dictD) := by
  intro pins s σ H xs us Q I r h
  obtain ⟨W, ds, sm, rl, h⟩ := h
  unfold dictD at h
  split at h
  · rename_i ds
    simp only [RepL, Rep] at rl
    obtain ⟨v, _, rfl, ⟨a, vs, rfl, q, l⟩, rfl⟩ := rl
    obtain ⟨u, rfl, rx⟩ := vals1 r
    cases rx
    cases ep : pairsD ds with
    | none => rw [ep] at h; exact h.elim
    | some ps =>
      rw [ep] at h
      obtain ⟨f1, f2⟩ := pairsD_at ep l
      obtain ⟨its, rv, ⟨ol, n, o1, o2, o3, o4⟩, hz⟩ := I.list (.of (sm _ _ q))
      have hlen : its.toArray.size = ps.length := by rw [List.size_toArray, f1, ← l.len, rv.length]
      refine ddict (K := X.K) (W := W) (ps := ps) (I.ok.hd hc) (by omega) o1 o2 o3 o4 hlen (by rw [hlen, f1, ← l.len]; exact hz) (fun j p e => ?_) (fun d v u k r1 r2 e => Rep.key I sm r1 r2 e) fun h' tk es ep k1 k2 k3 k4 => ?_
      · obtain ⟨b, x, y, g1, g2, g3, g4, g5⟩ := f2 j p e
        obtain ⟨its2, rv2, ht, _⟩ := I.tuple (Same.sqt sm g2)
        obtain ⟨u, z, rfl, ru, rz⟩ := vals2 rv2
        obtain ⟨w0, ew, rw0⟩ := rv.get g1
        cases rw0
        exact ⟨b, u, z, x, y, by simpa using ew, ht, ru, g3, rz, g4, g5⟩
      · have hs : (s.heap.objs.size == sysModules) = false := beq_eq_false_iff_ne.mpr (Nat.ne_of_gt I.big)
        have hsz : es.size ≤ sizeLine := by
          have h1 := k3.len
          rw [Array.length_toList] at h1
          have h2 := dMerge_len ps []
          rw [List.length_nil, Nat.zero_add, f1, ← l.len] at h2
          omega
        exact ⟨.ref s.heap.objs.size, _, I.laid (t' := tk) k1 (Nat.le_refl _) (dicO_new hs hsz k2), rfl, h.dic sm k3 k4 (I.hok.fresh (Nat.le_refl _))⟩
  · exact h.elim
end
end DP
set_option Elab.async false
set_option linter.all false
set_option maxRecDepth 100000
/-! DP, part 19: sorted(d.items()). -/
namespace DP
open PySem PySem.Spec PyProof.Rows L2

mutual
theorem reads_there {h : Heap} : ∀ {v : Value} {d : PyData} {as : List Addr}, Reads h v d as → ∀ a ∈ as, a < h.objs.size
  | _, _, _, .none, _, hm => nomatch hm
  | _, _, _, .bool _, _, hm => nomatch hm
  | _, _, _, .int _ _, _, hm => nomatch hm
  | _, _, _, .str _ _, _, hm => nomatch hm
  | _, _, _, .list h1 _ _ h4, b, hm => (List.mem_cons.mp hm).elim (fun e => e ▸ Heap.lt_size h1) (readsAll_there h4 b)
  | _, _, _, .tuple _ _ _ h4, b, hm => readsAll_there h4 b hm
  | _, _, _, .dict h1 _ _ h4 h5, b, hm => (List.mem_cons.mp hm).elim (fun e => e ▸ Heap.lt_size h1) fun q => (List.mem_append.mp q).elim (readsAll_there h4 b) (readsAll_there h5 b)
theorem readsAll_there {h : Heap} : ∀ {vs : List Value} {ds : List PyData} {as : List Addr}, ReadsAll h vs ds as → ∀ a ∈ as, a < h.objs.size
  | _, _, _, .nil, _, hm => nomatch hm
  | _, _, _, .cons r t, b, hm => (List.mem_append.mp hm).elim (reads_there r b) (readsAll_there t b)
end
section
variable {X : Cx} {Wx : WX}
/-- e.items() -/
def tItems (te : TE) : TE := fun σ H Q => te σ H fun x H1 => ∃ a es ep, x = .ref a ∧ H1 a = some (dicO a es ep) ∧ ∀ p, H1 p = none → Q (.ref p) (upd H1 p (L2.DX.itemsO p a))
theorem pe_items {o : Expr} {apos cpos : Pos} {te : TE} (ho : PE X o te) (hbase : attributeBase o "items" X.env (eval o X.env) = eval o X.env := by rfl) (hline : (apos.endLine == cpos.line) = true := by rfl) : PE X (.Call (.Attribute o "items" apos) [] [] cpos) (tItems te) := by
  refine ⟨fun pins s σ H Q I h => ?_⟩
  refine wpAny_Call_method0_late hbase hline (thn (ho.run pins s σ H _ I h) fun u s1 ⟨x, H1, I1, r1, a, es, ep, ex, hH, q⟩ => ?_)
  subst ex
  obtain rfl : u = Value.ref a := r1
  obtain ⟨⟨h1, h2, h3⟩, _⟩ := I1.hok a _ hH
  refine ⟨"dict", _, PySem.F.plainAttrs_dict, PySem.F.slot_dict_items, PySem.F.type_dict_items, dobj_type h3, fun b e => ?_, Calls.callWith_builtin rfl (PySem.evalArgs_none ?_)⟩
  · cases e
    exact ⟨_, h3, rfl⟩
  · refine DT.callItems (es := es) (ep := ep) h1 ⟨_, h3, ⟨rfl, rfl, rfl⟩, rfl⟩ ?_
    exact ⟨.ref s1.heap.objs.size, _, I1.laid (t' := s1.toks) (fun b u e => Heap.get?_push_of_some _ e) (Nat.le_refl _) (L2.DX.itemsO_ok (Heap.get?_push_size _ rfl)), rfl, q _ (I1.hok.fresh (Nat.le_refl _))⟩
def pairT (p : D × D) : D := .tuple [p.1, p.2]
def sortItemsD : D → Option D
  | .dict kvs => if srtOk (kvs.map pairT) = true then some (.list (sortL (kvs.map pairT))) else none
  | _ => none
/-- sorted(v), v the items of a dict -/
def rSortItems (X : Cx) : List V → Hp → VK → Prop := fun vs H Q => ∃ W p a es ep kvs, vs = [.ref p] ∧ H p = some (L2.DX.itemsO p a) ∧ H a = some (dicO a es ep) ∧ Same W H ∧ RepKV X.K X.w W kvs es.toList ∧ srtOk (kvs.map pairT) = true ∧
  onW X.K X.w W H (some (.list (sortL (kvs.map pairT)))) Q
set_option maxHeartbeats 2000000 in
theorem cr_sortItems (hc : X.calm = true) (hu : X.A.units + 64 < cLine) : CallR X (.builtin "sorted") (rSortItems X) := by
  intro pins s σ H xs us Q I r h
  obtain ⟨W, p, a, es, ep, kvs, rfl, hp, ha, sm, kv, ok, q⟩ := h
  obtain rfl := Vals.ref1 r
  have view : s.heap.IsItemsView p a := (show ObjOk X.prog X.w H s.heap p (L2.DX.itemsO p a) from I.hok p _ hp).1
  obtain ⟨⟨d1, d2, d3⟩, _⟩ := I.hok a _ ha
  refine DT.sortedI (es := es) (ep := ep) (I.ok.hd hc) view ⟨_, d3, ⟨rfl, rfl, rfl⟩, rfl⟩ d2 fun h' tk as hk hlt hl hG => ?_
  have lkv : kvs.length = es.size := by rw [← Array.length_toList, kv.len]
  have nd : as.Nodup := List.Pairwise.imp (fun h => Nat.ne_of_lt h) hG.rise
  -- what was made
  have made : ∀ (j : Nat) (b : Addr), as[j]? = some b → ∃ pr x y, ∃ u z : Value, kvs[j]? = some pr ∧ RelV x u ∧ RelV y z ∧ Rep X.K X.w W pr.1 x ∧ Rep X.K X.w W pr.2 y ∧ h'.get? b = some { cls := .type "tuple", data := .seq #[u, z] } := by
    intro j b hj
    obtain ⟨e, he, hg⟩ := hG.pairs j b hj
    obtain ⟨k, v, q1, _, ⟨x, q2, q3⟩, ⟨y, q4, q5⟩⟩ := kv.at (j := j) (e := e) (by rw [Array.getElem?_toList]; exact he)
    exact ⟨(k, v), x, y, e.key, e.val, q1, q2, q4, q3, q5, hg⟩
  have hob : (h'.push { cls := .type "list", data := .seq (as.map Value.ref).toArray }).get? h'.objs.size = some (seqObj "list" (as.map Value.ref).toArray 0) := Heap.get?_push_size _ rfl
  have kb : ∀ b o, s.heap.get? b = some o → (h'.push { cls := .type "list", data := .seq (as.map Value.ref).toArray }).get? b = some o := fun b o e => Heap.get?_push_of_some _ (hk b o e)
  have ne0 : ∀ b o, h'.get? b = some o → b ≠ h'.objs.size := fun b o e => Nat.ne_of_lt (Heap.lt_size e)
  have ka : ∀ b o, h'.get? b = some o → (h'.push { cls := .type "list", data := .seq (as.map Value.ref).toArray }).get? b = some o := fun b o e => Heap.get?_push_of_some _ e
  generalize hh2 : h'.push { cls := .type "list", data := .seq (as.map Value.ref).toArray } = h2 at hob kb ka ⊢
  have lz : (as.zip (kvs.map pairT)).map (·.2) = kvs.map pairT := List.map_snd_zip (by rw [List.length_map, lkv, hl]; exact Nat.le_refl _)
  have lf : (as.zip (kvs.map pairT)).map (·.1) = as := List.map_fst_zip (by rw [List.length_map, lkv, hl]; exact Nat.le_refl _)
  have inz : ∀ z ∈ as.zip (kvs.map pairT), ∃ (j : Nat) (pr : D × D), as[j]? = some z.1 ∧ kvs[j]? = some pr ∧ z.2 = pairT pr := fun z hz => by
    obtain ⟨j, hj⟩ := List.mem_iff_getElem?.mp hz
    obtain ⟨j1, j2⟩ := List.getElem?_zip_eq_some.mp hj
    rw [List.getElem?_map] at j2
    obtain ⟨pr, e1, e2⟩ := Option.map_eq_some_iff.mp j2
    exact ⟨j, pr, j1, e1, e2.symm⟩
  have each : ∀ l : List (Addr × D), (∀ z ∈ l, z ∈ as.zip (kvs.map pairT)) → PySem.W.EachIs (fun (v : Value) (b : Addr × D) => v = .ref b.1) (l.map fun z => Value.ref z.1) l ∧
      PySem.W.EachIs (fun v b => ∃ ad, Reads h2 v b.2 ad ∧ h'.objs.size ∉ ad) (l.map fun z => Value.ref z.1) l := by
    intro l
    induction l with
    | nil => exact fun _ => ⟨.nil, .nil⟩
    | cons z l ih =>
      intro hz
      obtain ⟨a1, a2⟩ := ih fun r hr => hz r (List.mem_cons_of_mem _ hr)
      obtain ⟨j, pr, j1, j2, j3⟩ := inz z (hz z List.mem_cons_self)
      obtain ⟨pr', x, y, u, w', m1, m2, m3, m4, m5, m6⟩ := made j z.1 j1
      rw [j2] at m1
      cases m1
      obtain ⟨b1, rd1⟩ := Rep.reads I sm _ _ _ m4 m2
      obtain ⟨b2, rd2⟩ := Rep.reads I sm _ _ _ m5 m3
      have rd : Reads h2 (.ref z.1) z.2 (b1 ++ (b2 ++ [])) := by
        rw [j3]
        exact .tuple (ka _ _ m6) rfl rfl (.cons (PyProof.Rows.Reads.keeps kb rd1) (.cons (PyProof.Rows.Reads.keeps kb rd2) .nil))
      refine ⟨.cons rfl a1, .cons ⟨_, rd, fun hm => ?_⟩ a2⟩
      have : h'.objs.size < s.heap.objs.size := by
        rcases List.mem_append.mp hm with q | q
        · exact reads_there rd1 _ q
        · rcases List.mem_append.mp q with q | q
          · exact reads_there rd2 _ q
          · cases q
      omega
  obtain ⟨ea, eb⟩ := each _ fun z hz => hz
  have evs : (as.zip (kvs.map pairT)).map (fun z => Value.ref z.1) = as.map Value.ref := by
    conv => rhs; rw [← lf]
    rw [List.map_map]
    rfl
  rw [evs] at ea eb
  have al : PySem.W.AllAlike ((as.zip (kvs.map pairT)).map fun z => z.2) := by
    have := srtOk_alike ok
    rw [List.map_id] at this
    rw [lz]
    exact this
  have so : PySem.W.Sortable ((as.zip (kvs.map pairT)).map fun z => z.2) := by
    have := srtOk_sortable ok
    rw [List.map_id] at this
    rw [lz]
    exact this
  have hzl : (as.zip (kvs.map pairT)).length ≤ sizeLine := by
    have := congrArg List.length lf
    rw [List.length_map] at this
    omega
  refine PySem.W.list_sort_data (s := { s with heap := h2, toks := tk }) (bs := as.zip (kvs.map pairT)) (enc := fun z => z.2) (R := fun v b => v = .ref b.1) hob ea eb al so hzl (fun b hb => ?_) fun out hlo he => ?_
  · have hm : b.2 ∈ kvs.map pairT := by rw [← lz]; exact List.mem_map.mpr ⟨b, hb, rfl⟩
    have h60 := srtOk_depth ok _ hm
    show X.A.units + 1 + 1 + b.2.depth < cLine
    omega
  · have eo : out = ((as.zip (kvs.map pairT)).mergeSort (PySem.W.dataLe false fun z => z.2)).map fun z => Value.ref z.1 := by
      have : ∀ {vs : List Value} {L2 : List (Addr × D)}, PySem.W.EachIs (fun (v : Value) (b : Addr × D) => v = .ref b.1) vs L2 → vs = L2.map fun z => Value.ref z.1 := by
        intro vs L2 h
        induction h with
        | nil => rfl
        | cons e _ ih => rw [List.map_cons, ← ih, e]
      exact this he
    subst eo
    generalize hzs : (as.zip (kvs.map pairT)).mergeSort (PySem.W.dataLe false fun z => z.2) = zs
    have pz : zs.Perm (as.zip (kvs.map pairT)) := by rw [← hzs]; exact List.mergeSort_perm _ _
    have es2 : zs.map (·.2) = sortL (kvs.map pairT) := by
      rw [← hzs]
      refine (List.map_mergeSort (r := PySem.W.dataLe false fun z : Addr × D => z.2) (s := dLe) (f := fun z : Addr × D => z.2) (l := as.zip (kvs.map pairT)) (fun a _ b _ => rfl)).trans ?_
      rw [lz]
      rfl
    have kF : ∀ b o, b ≠ h'.objs.size → h2.get? b = some o → (sortedHeap h2 h'.objs.size (as.map Value.ref) (zs.map fun z => Value.ref z.1).toArray).get? b = some o := fun b o hb e => (PyProof.Rows.sortedHeap_old hb (Heap.lt_size e)).trans e
    have kS : ∀ b o, s.heap.get? b = some o → (sortedHeap h2 h'.objs.size (as.map Value.ref) (zs.map fun z => Value.ref z.1).toArray).get? b = some o := fun b o e => kF b o (ne0 _ _ (hk b o e)) (kb b o e)
    obtain ⟨eF, heF⟩ := PyProof.Rows.sortedHeap_at (vs := as.map Value.ref) (out := (zs.map fun z => Value.ref z.1).toArray) hob
    have I1 : Inv X pins σ H { s with heap := sortedHeap h2 h'.objs.size (as.map Value.ref) (zs.map fun z => Value.ref z.1).toArray, toks := tk } := I.kept (t' := tk) kS
    have hn0 : H h'.objs.size = none := I.hok.fresh (Nat.le_of_lt hlt)
    have hlen : (zs.map fun z => V.ref z.1).length ≤ sizeLine := by rw [List.length_map, pz.length_eq]; exact hzl
    have rv : Vals (zs.map fun z => V.ref z.1) (zs.map fun z => Value.ref z.1) := vals_maps (fun z : Addr × D => V.ref z.1) (fun z => Value.ref z.1) zs fun _ _ => rfl
    have I2 : Inv X pins σ (upd H h'.objs.size (.lst (zs.map fun z => V.ref z.1))) { s with heap := sortedHeap h2 h'.objs.size (as.map Value.ref) (zs.map fun z => Value.ref z.1).toArray, toks := tk } :=
      I1.take (h' := sortedHeap h2 h'.objs.size (as.map Value.ref) (zs.map fun z => Value.ref z.1).toArray) (t' := tk) (fun b ob _ e => e) (I.fpOk (Nat.le_of_lt hlt) hn0) (show ObjOk X.prog X.w (upd H h'.objs.size (.lst (zs.map fun z => V.ref z.1))) _ _ (.lst (zs.map fun z => V.ref z.1)) from ⟨hlen, zs.map fun z => Value.ref z.1, eF, rv, heF⟩)
    have nas : h'.objs.size ∉ as := fun z => Nat.lt_irrefl _ (hG.there z)
    -- the tuples that were made are tracked
    obtain ⟨H2, I3, g, qt⟩ := L2.DX.takeT (P := fun b vs => ∃ (j : Nat) (pr : D × D) (x y : V), as[j]? = some b ∧ kvs[j]? = some pr ∧ vs = [x, y] ∧ Rep X.K X.w W pr.1 x ∧ Rep X.K X.w W pr.2 y) I as _ I2 nd fun b hb => by
      obtain ⟨j, hj⟩ := List.mem_iff_getElem?.mp hb
      obtain ⟨pr, x, y, u, w', m1, m2, m3, m4, m5, m6⟩ := made j b hj
      have hbl : s.heap.objs.size ≤ b := Nat.le_of_lt (hG.above b hb)
      refine ⟨hbl, ?_, [x, y], ⟨j, pr, x, y, hj, m1, rfl, m4, m5⟩, fun H3 => ⟨(by rw [sizeLine_eq]; show 2 ≤ 16777216; omega), [u, w'], .cons m2 (.cons m3 .nil), ⟨_, kF _ _ (ne0 _ _ m6) (ka _ _ m6), rfl, 0, rfl⟩⟩⟩
      rw [upd_ne (ne0 _ _ m6)]
      exact I.hok.fresh hbl
    have gr : ∀ b o, H b = some o → H2 b = some o := fun b o e => g b o (by rw [upd_ne (ne_of_none e hn0)]; exact e)
    -- what is frozen of it: W and these tuples
    have frz : ∃ W2, Ex W H W2 H2 ∧ (∀ b ∈ as, W2 b = H2 b) ∧ W2 h'.objs.size = none := by
      refine ⟨fun b => if b ∈ as then H2 b else W b, ⟨fun b o e => ?_, gr, fun b o e => ?_, fun b h1 h2 => ?_⟩, fun b hb => if_pos hb, ?_⟩
      · have : b ∉ as := fun z => by
          have hbl : s.heap.objs.size ≤ b := Nat.le_of_lt (hG.above b z)
          rw [sm.free (I.hok.fresh hbl)] at e; cases e
        show (if b ∈ as then H2 b else W b) = some o
        rw [if_neg this]; exact e
      · by_cases hb : b ∈ as
        · simp only [if_pos hb] at e; exact e
        · simp only [if_neg hb] at e; exact gr _ _ (sm _ _ e)
      · by_cases hb : b ∈ as
        · exact I.hok.fresh (Nat.le_of_lt (hG.above b hb))
        · simp only [if_neg hb] at h1; exact absurd h2 h1
      · show (if h'.objs.size ∈ as then H2 h'.objs.size else W h'.objs.size) = none
        rw [if_neg nas]
        exact sm.free hn0
    obtain ⟨W2, ex2, at2, nW2⟩ := frz
    have rl : ∀ l : List (Addr × D), (∀ z ∈ l, z ∈ as.zip (kvs.map pairT)) → RepL X.K X.w W2 (l.map (·.2)) (l.map fun z => V.ref z.1) := by
      intro l
      induction l with
      | nil => exact fun _ => RepL.nil
      | cons z l ih =>
        intro hz
        refine RepL.cons ?_ (ih fun r hr => hz r (List.mem_cons_of_mem _ hr))
        obtain ⟨j, pr, j1, j2, j3⟩ := inz z (hz z List.mem_cons_self)
        have hza := List.mem_of_getElem? j1
        obtain ⟨vs, ⟨i, pr', x, y, i1, i2, rfl, i4, i5⟩, hH⟩ := qt z.1 hza
        have eij : i = j := (List.getElem?_inj (List.getElem?_eq_some_iff.mp i1).1 nd).mp (i1.trans j1.symm)
        subst eij
        rw [j2] at i2
        cases i2
        show Rep X.K X.w W2 z.2 (V.ref z.1)
        rw [j3]
        simp only [pairT, Rep, RepL]
        exact ⟨z.1, [x, y], rfl, .inl (.inl ((at2 _ hza).trans hH)), x, [y], rfl, Rep.mono ex2.ext _ _ i4, y, [], rfl, Rep.mono ex2.ext _ _ i5, rfl⟩
    refine ⟨.ref h'.objs.size, H2, I3, rfl, ?_⟩
    rw [← es2] at q
    exact q W2 _ _ ex2 nW2 ⟨_, g _ _ upd_same, rl zs fun z hz => pz.mem_iff.mp hz⟩ hn0
theorem en_sortItems {e : Expr} {f : XF} {p p2 q pos : Pos} (hc : X.calm = true) (hu : X.A.units + 64 < cLine) (hg : Gl X "sorted") (hm : X.mg "sorted" = none) (he : EX X Wx e f)
    (hbase : attributeBase e "items" X.env (eval e X.env) = eval e X.env := by rfl) (hline : (p2.endLine == q.line) = true := by rfl)
    (hs : starEach [.Call (.Attribute e "items" p2) [] [] q] X.env = (false, eval (.Call (.Attribute e "items" p2) [] [] q) X.env) :: starEach [] X.env := by rfl) :
    EN X Wx (.Call (.Name "sorted" p) [.Call (.Attribute e "items" p2) [] [] q] [] pos) (x1 sortItemsD f) := by
  refine PE.wk (pe_callB (cr_sortItems hc hu) hg hm (by rfl) (pa_cons (pe_items he hbase hline) pa_nil hs) (by decide) (by decide) hs (by rfl)) ?_
  rintro σ H Q ⟨ρ, W, env, A, S, h⟩
  refine tN_then S h fun d W1 H1 env1 A1 v S1 F1 r1 h1 => ?_
  simp only at h1
  unfold sortItemsD at h1
  split at h1
  · rename_i d' kvs
    simp only [Rep] at r1
    obtain ⟨a, es, ep, rfl, q1, kv, nd⟩ := r1
    split at h1
    · rename_i ok
      have h2 := onW_of S1 h1
      refine ⟨a, es, ep, rfl, S1.sub _ _ q1, fun b hb => ?_⟩
      have e2 : Ex W1 H1 W1 (upd H1 b (L2.DX.itemsO b a)) := Ex.junk S1.sub hb
      refine ⟨W1, b, a, es, ep, kvs, rfl, upd_same, ?_, e2.sub, kv, ok, ?_⟩
      · rw [upd_ne (ne_of_none (S1.sub _ _ q1) hb)]
        exact S1.sub _ _ q1
      · intro W3 H3 p3 e3 n3 o3 z3
        have z4 : H1 p3 = none := by
          by_cases z : p3 = b
          · rw [z]; exact hb
          · rwa [upd_ne z] at z3
        exact h2 W3 H3 p3 (e2.trans e3) n3 o3 z4
    · exact h1.elim
  · exact h1.elim
end
end DP
set_option Elab.async false
set_option linter.all false
set_option maxRecDepth 100000
/-! DP, part 20: words for the printed proofs. -/
namespace DP
open PySem PySem.Spec PyProof.Rows L2

/-- what a caller has of a def that reckons F -/
structure Def0 (P : Program) (w : World) (K : PySem.W.Frag) (mg : Str → Option Value) (base : Heap) (k : Nat) (x : Str) (ps : List Str) (F : FD) : Prop where
  ex : ∃ f fd, FnG P w K mg base k f fd ps (spF K w mg ps.length F) ∧ mg x = some (.ref f) ∧ PySem.W.keepIn K (.ref f) = true ∧ Binds K fd ps []
section
variable {X : Cx} {Wx : WX} {k j : Nat} {ps : List Str} {F : FD} {x : Str} {p pos : Pos} {e : Expr} {es : List Expr} {g : AF}
theorem ex_callD (d : Def0 X.prog X.w X.K X.mg X.base k x ps F) (hr : Room j X.A) (hk : k ≤ j) (hq : X.A.guards = some []) (hg : Gl X x) (tk : Takes X Wx) (ha : EA X Wx (e :: es) g)
    (hdb : (x == ("__debug__" : Str)) = false := by decide) (he : starEach (e :: es) X.env = (false, eval e X.env) :: starEach es X.env := by rfl) (hpl : (backTo pos (starEach es X.env)).any (·.1) = false := by rfl) :
    EX X Wx (.Call (.Name x p) (e :: es) [] pos) (xCall ps.length F g) := by
  obtain ⟨f, fd, G, h1, h2, h3⟩ := d.ex
  exact ex_callG G (hr.mono hk) hq hg h1 h2 h3 tk ha hdb he hpl
theorem ex_int {i : Int} {j : Nat} : EX X Wx (.Constant (.int i) j pos) (xConst (.int i)) := ex_const pe_int fun W => by simp only [Rep]
theorem ex_str {y : Str} {j : Nat} : EX X Wx (.Constant (.str y) j pos) (xConst (.str y)) := ex_const pe_str fun W => by simp only [Rep]
theorem ex_none {j : Nat} : EX X Wx (.Constant .none j pos) (xConst .none) := ex_const pe_non fun W => by simp only [Rep]
theorem ex_bl {b : Bool} {j : Nat} : EX X Wx (.Constant (.bool b) j pos) (xConst (.bool b)) := ex_const pe_bl fun W => by simp only [Rep]
end
section
variable {X : Cx} {Wx : WX} {a b c : Expr} {f g k : XF} {pos : Pos} {op op' : CmpOp} {o o' : D → D → Option D}
theorem tst_read {σ : L2.St} {H : Hp} {Q : Bool → Hp → Prop} (h : tT X Wx (tst f) σ H Q) : tX X Wx f σ H fun v H' => ∃ k, v = .bl k ∧ Q k H' := by
  obtain ⟨ρ, W, env, A, S, h⟩ := h
  refine tG_then S h fun d W1 H1 env1 A1 v S1 F1 r1 h1 => ?_
  unfold asB at h1
  split at h1
  · rename_i b e
    simp only at e
    subst e
    simp only [Rep] at r1
    exact ⟨b, r1, h1 W1 H1 A1 b S1 (Fr.refl _ _ _) rfl⟩
  · exact h1.elim
theorem et_cmp (ho : OpR X (compareOp op) (tV2 X.K X.w o)) (ha : EX X Wx a f) (hb : EX X Wx b g) (hm : behindInMarks op b = false := by first | exact nomark _ | rfl) : ET X Wx (.Compare a [op] [b] pos) (tst (x2 o f g)) :=
  PT.wk (pt_cmpR ho ha hb hm) fun σ H Q h => x2_read (fun _ _ _ _ q => q) (tst_read h)
theorem chain_read {σ : L2.St} {H : Hp} {Q : VK} (h : tX X Wx (xChain o o' f g k) σ H Q) : tChain (tV2 X.K X.w o) (tV2 X.K X.w o') (tX X Wx f) (tX X Wx g) (tX X Wx k) σ H Q := by
  obtain ⟨ρ, W, env, A, S, h⟩ := h
  unfold xChain at h
  refine tG_then S h fun d W1 H1 env1 A1 v S1 F1 r1 h1 => ?_
  refine tG_then S1 h1 fun d2 W2 H2 env2 A2 u S2 F2 r2 h2 => ?_
  simp only at h2
  refine ⟨W2, d, d2, S2.sub, Rep.mono F2.ext d v r1, r2, ?_⟩
  cases eo : o d d2 with
  | none => rw [eo] at h2; exact h2.elim
  | some z =>
    rw [eo] at h2
    intro W3 H3 v3 e3 r3
    simp only [liftO_some, Out.bind_ok] at h2
    unfold asB at h2
    cases z with
    | bool q =>
      simp only [Rep] at r3
      subst r3
      refine ⟨q, rfl, ?_⟩
      simp only [Out.bind_ok] at h2
      have S3 := S2.ex e3
      cases q with
      | false =>
        simp only [Bool.false_eq_true, if_false] at h2 ⊢
        exact h2 W3 H3 A2 _ S3 (e3.fr _) rfl
      | true =>
        simp only [if_true] at h2 ⊢
        have h3 := onG_fr h2 (e3.fr (ownd A2))
        refine tG_then S3 h3 fun d4 W4 H4 env4 A4 v4 S4 F4 r4 h4 => ?_
        have h5 : onX X Wx ρ σ W4 H4 A4 (liftO (o' d2 d4) env4) Q := by
          simp only at h4
          cases eo' : o' d2 d4 with
          | none => rw [eo'] at h4; exact h4.elim
          | some z => rw [eo'] at h4; exact h4
        exact ⟨W4, d2, d4, S4.sub, Rep.mono (e3.ext.trans F4.ext) d2 u r2, r4, onV_of S4 h5⟩
    | _ => exact h2.elim
theorem et_chain (ho : OpR X (compareOp op) (tV2 X.K X.w o)) (ho' : OpR X (compareOp op') (tV2 X.K X.w o')) (ha : EX X Wx a f) (hb : EX X Wx b g) (hc : EX X Wx c k)
    (hm : lastMarks [op, op'] [b, c] = false := by with_unfolding_all rfl) : ET X Wx (.Compare a [op, op'] [b, c] pos) (tst (xChain o o' f g k)) :=
  PT.wk (pt_chain ho ho' ha hb hc hm) fun σ H Q h => chain_read (tst_read h)
end
end DP
set_option Elab.async false
set_option linter.all false
set_option maxRecDepth 100000
/-! DP, part 21: defs of the script; the law's own call. -/
namespace DP
open PySem PySem.Spec PyProof.Rows L2

abbrev FS := List Int → Out D
/-- the promise of a def of the script alone -/
def spS (K : PySem.W.Frag) (w : World) (mg : Str → Option Value) (F : FS) : Sp := fun vs H Q E => ∃ W a ns, vs = [V.ref a] ∧ Same W H ∧ SqL K W a (ns.map V.int) ∧ onF K w mg W H (F ns) Q E
def runS (n : Nat) (B : SF) (ns : List Int) : Out D := match B (.sc ns :: List.replicate (n - 1) .no) with
  | .ok (.rt d, _) => .ok d
  | .ok (.nx, _) => .ok .none
  | .ok _ => .bad
  | .exc c d e => .exc c d e
  | .bad => .bad
def xCallS (i : Nat) (F : FS) : XF := fun env => match env[i]? with
  | some (.sc ns) => (match F ns with
    | .ok d => .ok (d, env)
    | .exc c d _ => .exc c d env
    | .bad => .bad)
  | _ => .bad
structure DefS (P : Program) (w : World) (K : PySem.W.Frag) (mg : Str → Option Value) (base : Heap) (k : Nat) (x : Str) (ps : List Str) (F : FS) : Prop where
  ex : ∃ f fd, FnG P w K mg base k f fd ps (spS K w mg F) ∧ mg x = some (.ref f) ∧ PySem.W.keepIn K (.ref f) = true ∧ Binds K fd ps []
section
variable {P : Program} {w : World} {K : PySem.W.Frag} {mg : Str → Option Value} {base : Heap} {k : Nat} {f : Addr} {fd : FuncData} {ps N : List Str}
theorem SR.startS {ρ : Nat → Addr} {W H : Hp} {a : Addr} {ns : List Int} (s : Same W H) (h : SqL K W a (ns.map V.int)) (hN : 1 ≤ N.length) :
    SR K w ρ W H (.sc ns :: List.replicate (N.length - 1) .no) (L2.start N [.ref a]) (List.replicate (L2.start N [.ref a]).length []) := by
  refine ⟨s, ?_, by simp, fun i sl v l h1 h2 h3 => ?_, fun i j l m p h1 h2 h3 _ => absurd ⟨i, l, h1, h3⟩ (own_none p)⟩
  · unfold L2.start
    simp only [List.length_append, List.length_map, List.length_replicate, List.length_cons, List.length_nil]
    omega
  · rw [List.getElem?_replicate] at h3
    split at h3
    · cases h3
      unfold L2.start at h2
      cases i with
      | zero =>
        cases h1
        cases h2
        exact ⟨rfl, a, rfl, h⟩
      | succ i =>
        rw [List.getElem?_cons_succ, List.getElem?_replicate] at h1
        split at h1 <;> cases h1
        exact rfl
    · cases h3
/-- a def of the script -/
theorem fnG_script {x qual : Str} {st : Stmt} {B : SF} (Fn : Fun K x qual st f fd) (S : FnScope N ps (defScope st)) (hp : ps.length = 1) (hN : 1 ≤ N.length)
    (body : ∀ (cdv : Value) (A : Around) (outer : List Env) (s : Shared) (H : Hp) (E : XK), Room k (A.deeper (envOfC qual (defScope st) s.heap.objs.size f cdv)) → A.guards = some [] →
      EB (cxOf (L2.CX P w) P w K mg base N qual (defScope st) f cdv A outer s H E) (fun cls d _ H => E cls d H) (defBody st) B) : FnG P w K mg base (k + 1) f fd ps (spS K w mg (runS N.length B)) := by
  refine fnG_of Fn S (fun vs H Q E h => ?_) fun cdv A outer s H vs Q E hr hg h => ⟨_, body cdv A outer s H E hr hg, ?_⟩
  · obtain ⟨W, a, ns, rfl, _⟩ := h
    exact hp.symm
  · obtain ⟨W, a, ns, rfl, sm, sq, h⟩ := h
    refine ⟨fun _ => 0, W, _, _, SR.startS sm sq hN, ?_⟩
    unfold runS at h
    have ex : ∀ {W' H' : Hp} {A' : List (List Addr)}, Same W' H' → Fr W H (ownd (List.replicate (L2.start N [V.ref a]).length [])) W' H' (ownd A') → Ex W H W' H' := fun s F => F.ex own_none s
    cases eb : B (.sc ns :: List.replicate (N.length - 1) .no) with
    | bad => rw [eb] at h; exact h.elim
    | exc c d e =>
      rw [eb] at h
      exact fun C W' H' A' σ' dx v g S' F' x r' => h C W' H' dx v g (ex S'.sub F') x r'
    | ok q =>
      obtain ⟨fl, env'⟩ := q
      rw [eb] at h
      cases fl with
      | nx => exact fun W' H' A' σ' S' F' => h W' H' _ (ex S'.sub F') rfl
      | rt d => exact fun W' H' A' σ' S' F' v rv => h W' H' v (ex S'.sub F') rv
      | bk => exact h.elim
      | ct => exact h.elim
end
section
variable {X : Cx} {Wx : WX} {k j i : Nat} {ps : List Str} {F : FS} {x y : Str} {p p2 pos : Pos}
theorem ex_callS (d : DefS X.prog X.w X.K X.mg X.base k x ps F) (hr : Room j X.A) (hk : k ≤ j) (hq : X.A.guards = some []) (hg : Gl X x) (tk : Takes X Wx) (h : PE X (.Name y p2) (tVar i))
    (hdb : (x == ("__debug__" : Str)) = false := by decide) (he : starEach [.Name y p2] X.env = (false, eval (.Name y p2) X.env) :: starEach [] X.env := by rfl) (hpl : (backTo pos (starEach [] X.env)).any (·.1) = false := by rfl) :
    EX X Wx (.Call (.Name x p) [.Name y p2] [] pos) (xCallS i F) := by
  obtain ⟨f, fd, G, h1, h2, h3⟩ := d.ex
  refine PE.wk (pe_callG (E := fun σ cls d H => Wx cls d σ H) G (hr.mono hk) hq hg h1 h2 h3 (fun σ => passAt tk σ) (pa_cons h pa_nil he) hdb he hpl) ?_
  rintro σ H Q ⟨ρ, W, env, A, S, h⟩
  unfold xCallS at h
  cases e : env[i]? with
  | none => rw [e] at h; exact h.elim
  | some sl =>
    rw [e] at h
    obtain ⟨v, l, g1, g2, g3⟩ := S.at e
    cases sl with
    | sc ns =>
      obtain ⟨_, a, rfl, q⟩ := g3
      refine ⟨.ref a, g1, W, a, ns, rfl, S.sub, q, ?_⟩
      simp only at h
      cases eF : F ns with
      | bad => rw [eF] at h; exact h.elim
      | ok d =>
        rw [eF] at h
        exact fun W' H' v ex r => h W' H' A v (S.ex ex) (ex.fr _) r
      | exc c d e' =>
        rw [eF] at h
        exact fun C W' H' dx v g ex hx r => h C W' H' A dx v g (S.ex ex) (ex.fr _) hx r
    | _ => exact h.elim
end

/-! ### the law's own call -/
/-- the def is called where nothing is tracked but, at most, the script -/
theorem go_law {P : Program} {w : World} {K : PySem.W.Frag} {mg mb : Str → Option Value} {k : Nat} {fa a : Addr} {fd : FuncData} {x : Str} {F : FS} {s : Shared} {vs : List Value} {ns : List Int} {H : Hp}
    (kin : K.In s.heap) (gl : s.heap.Ns mainGlobals mg) (bl : s.heap.Ns builtinsNs mb) (bb : ∀ x : Str, x ≠ "__name__" → mb x = bootBuiltins x) (lim : s.heap.NoLimit) (gens : s.gens = #[])
    (ha : s.heap.get? a = some { cls := .type "list", data := .seq vs.toArray }) (room : Room k callerA) (G : ∀ base : Heap, K.In base → base.Ns mainGlobals mg → FnG P w K mg base k fa fd [x] (spS K w mg F)) (bind : ∀ (s : Shared) (u : Value), BindsTo s fd ⟨[u], []⟩ [(x, u)])
    (good : F ns = .ok (.bool true)) (sq : SqL K H a (ns.map V.int)) (hok : HOk P w H s.heap) (only : ∀ b, H b = none ∨ ∃ o xs, H b = some (.frz o (.lst xs))) (at_ : ∀ b, H b ≠ none → b = a) (apart : H a ≠ none → K.lookup a = none) :
    codeAny (model P w) callerA (.call (.ref fa) ⟨[.ref a], []⟩) (fun r s' => r = .ok (.ret (.bool true)) ∧ OldK s.heap s'.heap ∧ s'.os = s.os ∧ AllBare s'.gens) s := by
  -- what is not the script is the ground
  have ground : ∀ {b : Addr} {o : Obj}, s.heap.get? b = some o → (b = a → H a = none) → (hidT s.heap H).get? b = some o := fun {b o} e h => hidT_get e (by
    cases q : H b with
    | none => rfl
    | some u =>
      have z : b = a := at_ b (by rw [q]; exact fun z => nomatch z)
      have z2 := h z
      rw [← z, q] at z2
      cases z2)
  have names : ∀ {b : Addr} {m : Str → Option Value}, s.heap.Ns b m → (hidT s.heap H).Ns b m := by
    rintro b m ⟨o, es, ep, e, d, r⟩
    refine ⟨o, es, ep, ground e fun z => ?_, d, r⟩
    subst z
    rw [ha] at e
    cases e
    cases (show Data.seq vs.toArray _ = Data.dict es ep from d)
  have kin' : K.In (hidT s.heap H) := fun b o e => ground (kin b o e) fun z => by
    subst z
    cases q : H b with
    | none => rfl
    | some u =>
      have := apart (by rw [q]; exact fun z => nomatch z)
      rw [e] at this
      cases this
  obtain ⟨mc, l1, l2⟩ := lim
  have e0 : Env0 P w K mg (hidT s.heap H) callerA [] s H := ⟨rfl, ⟨kin', names gl, ⟨mb, names bl, bb⟩, ⟨mc, names l1, l2⟩⟩, fun b o e => of_hidT e, Nat.le_of_eq (hidT_size _ _), trivial, fun b hb => (nomatch (show b ∈ ([] : List Addr) from hb)), hok, AllBare.of_eq gens⟩
  refine codeAny_mono ((G _ kin' (names gl)).go callerA [] s H ⟨[.ref a], []⟩ [.ref a] [.ref a] (fun v _ => v = .bl true) (fun _ _ _ => False) room rfl e0 (bind s (.ref a)) (.cons rfl .nil) ⟨H, a, ns, rfl, Same.refl _, sq, ?_⟩) ?_
  · rw [good]
    exact fun W' H' v _ r => r
  · intro r s' h
    cases r with
    | error e =>
      obtain ⟨_, _, _, _, _, _, _, _, _, _, _, _, z⟩ := h
      exact z.elim
    | ok fl =>
      cases fl with
      | ret u =>
        obtain ⟨v, H', os, bare, un, hok', rv, q⟩ := h
        have q : v = .bl true := q
        subst q
        cases (show u = Value.bool true from rv)
        refine ⟨rfl, OldK.of_keep fun b o e => ?_, os, bare⟩
        rcases only b with z | ⟨ob, xs, z⟩
        · exact un.keep b o e z (fun z => nomatch (show b ∈ ([] : List Addr) from z)) (fun z => nomatch z)
        · obtain ⟨e1, _⟩ := hok b _ z
          obtain ⟨e2, _⟩ := hok' b _ (un.frzs b ob _ z)
          rw [e] at e1
          cases e1
          exact e2
      | next => exact h.elim
      | brk => exact h.elim
      | cont => exact h.elim
/-- THE LAW, from what its def reckons at every script -/
theorem walk_law {l : PySem.W.OpenLaw} {n k : Nat} {q : Program} {loose : List Str} {XP : (Str → Option Value) → Heap → Prop} {YP : World → Heap → Prop} {d : DefRec} {K : Params → PySem.W.Frag} {F : FS} {x : Str}
    (hn : l.most = some n) (hn2 : n ≤ sizeLine) (hdf : d.params.defaults = []) (hr : Room k callerA) (hY : ∀ (w : World) (h : Heap), YP w h → (K w.params).In h)
    (go : ∀ (w : World) (mg : Str → Option Value) (fa : Addr) (h : Heap), (K w.params).In h → h.Ns mainGlobals mg → mg d.name = some (.ref fa) →
      ∃ fd : FuncData, (∀ (s : Shared) (u : Value), BindsTo s fd ⟨[u], []⟩ [(x, u)]) ∧ ∀ base : Heap, (K w.params).In base → base.Ns mainGlobals mg → FnG l.prog w (K w.params) mg base k fa fd [x] (spS (K w.params) w mg F))
    (good : ∀ ns : List Int, ns.length ≤ n → F ns = .ok (.bool true)) : PySem.W.WalkO q loose XP YP l.row.toRowW d [] (fun f vs => PySem.call f vs) := by
  refine Att.attach_call hn hdf fun w s₀ s mg mb fa o pm cd doc a vs ns G Y ho hd hcd hmg hobj hints hlen hg => ?_
  have kin := hY w _ Y
  obtain ⟨fd, bind, run⟩ := go w mg fa _ kin G.T.g hmg
  have rv := vals_ints hints
  have hz : ns.length ≤ sizeLine := Nat.le_trans hlen hn2
  cases hk : (K w.params).lookup a with
  | some ob =>
    -- the script is an object of the module's
    have e := kin a ob hk
    rw [hobj] at e
    cases e
    refine go_law (H := fun _ => none) kin G.T.g G.T.b G.T.builtins G.T.nolimit hg hobj hr run bind (good ns hlen) (.inr ⟨_, vs.toArray, _, hk, rfl, rfl, rfl, by rw [List.size_toArray, ← rv.length, List.length_map]; exact hz, by simpa using rv⟩) (fun b u z => nomatch z) (fun _ => .inl rfl) (fun b z => absurd rfl z) fun z => absurd rfl z
  | none =>
    refine go_law (H := upd (fun _ => none) a (.frz { cls := .type "list", data := .seq vs.toArray } (.lst (ns.map V.int)))) kin G.T.g G.T.b G.T.builtins G.T.nolimit hg hobj hr run bind (good ns hlen) (.inl (.inr ⟨_, upd_same⟩)) (fun b u z => ?_) (fun b => ?_) (fun b z => ?_) fun _ => hk
    · by_cases hb : b = a
      · subst hb
        rw [upd_same] at z
        cases z
        exact ⟨hobj, by rw [List.length_map]; exact hz, vs, _, rv, hobj⟩
      · rw [upd_ne hb] at z
        cases z
    · by_cases hb : b = a
      · subst hb
        exact .inr ⟨_, _, upd_same⟩
      · exact .inl (upd_ne hb)
    · by_cases hb : b = a
      · exact hb
      · exact absurd (upd_ne hb) z
end DP
set_option Elab.async false
set_option linter.all false
set_option maxRecDepth 100000
/-! DP, part 22: plain laws of the words. -/
namespace DP
open PySem PySem.Spec PyProof.Rows L2

section
variable {f g : SF} {env e1 : Ev} {d : D} {i : Nat}
theorem seq_nx (h : f env = .ok (.nx, e1)) : sSeq f g env = g e1 := by unfold sSeq; rw [h]; rfl
theorem seq_rt {e1 : Ev} (h : f env = .ok (.rt d, e1)) : sSeq f g env = .ok (.rt d, e1) := by unfold sSeq; rw [h]; rfl
theorem for_inv {g : GF} {body : SF} (I : Nat → Ev → Prop) : ∀ (xs : List D) (n : Nat) (env : Ev), (∀ i x env, xs[i]? = some x → I (n + i) env → ∃ e1 e2, g x env = some e1 ∧ body e1 = .ok (.nx, e2) ∧ I (n + i + 1) e2) → I n env →
    ∃ e2, forL g body xs env = .ok (.nx, e2) ∧ I (n + xs.length) e2
  | [], n, env, _, h => ⟨env, rfl, h⟩
  | x :: xs, n, env, step, h => by
    obtain ⟨e1, e2, h1, h2, h3⟩ := step 0 x env rfl h
    obtain ⟨e3, h4, h5⟩ := for_inv I xs (n + 1) e2 (fun i y env hy hi => by
      obtain ⟨a, b, c1, c2, c3⟩ := step (i + 1) y env (by simpa using hy) (by rw [show n + (i + 1) = n + 1 + i by omega]; exact hi)
      exact ⟨a, b, c1, c2, by rw [show n + 1 + i + 1 = n + (i + 1) + 1 by omega]; exact c3⟩) h3
    refine ⟨e3, ?_, by rw [List.length_cons, show n + (xs.length + 1) = n + 1 + xs.length by omega]; exact h5⟩
    unfold forL
    rw [h1]
    simp only [h2, Out.bind_ok, h4]
/-- a comprehension whose elements change no slot -/
theorem cmp_all {g : GF} {el : XF} {vs : List Nat} {env : Ev} {f : D → D} {e1 : D → Ev} : ∀ xs : List D, (∀ x ∈ xs, g x env = some (e1 x) ∧ el (e1 x) = .ok (f x, e1 x) ∧ wipeE (e1 x) vs = env) → cmpL g tTrue el vs xs env = .ok (xs.map f, env)
  | [], _ => rfl
  | x :: xs, h => by
    obtain ⟨h1, h2, h3⟩ := h x List.mem_cons_self
    unfold cmpL
    rw [h1]
    simp only [tTrue, Out.bind_ok, if_true, h2, h3, cmp_all xs fun y hy => h y (List.mem_cons_of_mem _ hy), List.map_cons]
theorem cmp_if {g : GF} {ts : TF} {el : XF} {vs : List Nat} {env : Ev} {f : D → D} {b : D → Bool} {e1 : D → Ev} : ∀ xs : List D, (∀ x ∈ xs, g x env = some (e1 x) ∧ ts (e1 x) = .ok (b x, e1 x) ∧ (b x = true → el (e1 x) = .ok (f x, e1 x)) ∧ wipeE (e1 x) vs = env) →
    cmpL g ts el vs xs env = .ok ((xs.filter b).map f, env)
  | [], _ => rfl
  | x :: xs, h => by
    obtain ⟨h1, h2, h3, h4⟩ := h x List.mem_cons_self
    have ih := cmp_if xs fun y hy => h y (List.mem_cons_of_mem _ hy)
    unfold cmpL
    rw [h1]
    cases hb : b x with
    | true => simp only [h2, Out.bind_ok, hb, if_true, h3 hb, h4, ih, List.filter_cons, List.map_cons]
    | false => simp only [h2, Out.bind_ok, hb, Bool.false_eq_true, if_false, h4, ih, List.filter_cons]
end

theorem runS_rt {n : Nat} {B : SF} {ns : List Int} {d : D} {e : Ev} (h : B (.sc ns :: List.replicate (n - 1) .no) = .ok (.rt d, e)) : runS n B ns = .ok d := by unfold runS; rw [h]
theorem runB_rt {n : Nat} {B : SF} {ds : List D} {d : D} {e : Ev} (h : B (ds.map .fz ++ List.replicate (n - ds.length) .no) = .ok (.rt d, e)) : runB n B ds = .ok d := by unfold runB; rw [h]
/-! ### one step each -/
theorem bind_congr {α β : Type} {a b : Out α} {f : α → Out β} (h : a = b) : a.bind f = b.bind f := by rw [h]
section
variable {f g k : XF} {c t u : TF} {p q : SF} {l : AF} {env : Ev} {d : D} {i j n : Nat} {o o' : D → D → Option D} {o1 : D → Option D} {on : List D → Option D} {F : FD} {G : GF} {GL : GLF} {w : IF}
@[simp] theorem xConst_ap : xConst d env = .ok (d, env) := rfl
theorem xVar_fz (h : env[i]? = some (.fz d)) : xVar i env = .ok (d, env) := by unfold xVar; rw [h]
@[simp] theorem xVar_ap (h : env[i]? = some (.fz d)) : xVar i env = .ok (d, env) := xVar_fz h
@[simp] theorem x1_ap : x1 o1 f env = (f env).bind fun r => liftO (o1 r.1) r.2 := rfl
@[simp] theorem x2_ap : x2 o f g env = (f env).bind fun r => (g r.2).bind fun q => liftO (o r.1 q.1) q.2 := rfl
@[simp] theorem xn_ap : xn on l env = (l env).bind fun r => liftO (on r.1) r.2 := rfl
@[simp] theorem aNil_ap : aNil env = .ok ([], env) := rfl
@[simp] theorem aCons_ap : aCons f l env = (f env).bind fun r => (l r.2).bind fun q => .ok (r.1 :: q.1, q.2) := rfl
@[simp] theorem xTup_ap : xTup l env = (l env).bind fun r => liftO (if r.1.length ≤ sizeLine then some (.tuple r.1) else none) r.2 := rfl
@[simp] theorem xLst_ap : xLst l env = (l env).bind fun r => liftO (if r.1.length ≤ sizeLine then some (.list r.1) else none) r.2 := rfl
@[simp] theorem tst_ap : tst f env = (f env).bind asB := rfl
@[simp] theorem tNot_ap : tNotF c env = (c env).bind fun r => .ok (!r.1, r.2) := rfl
@[simp] theorem tAnd_ap : tAndF t u env = (t env).bind fun r => if r.1 = true then u r.2 else .ok (false, r.2) := rfl
@[simp] theorem tOr_ap : tOrF t u env = (t env).bind fun r => if r.1 = true then .ok (true, r.2) else u r.2 := rfl
@[simp] theorem tTrue_ap : tTrue env = .ok (true, env) := rfl
@[simp] theorem xIf_ap : xIf c f g env = (c env).bind fun r => if r.1 = true then f r.2 else g r.2 := rfl
@[simp] theorem xBool_ap : xBool c env = (c env).bind fun r => .ok (.bool r.1, r.2) := rfl
@[simp] theorem xChain_ap : xChain o o' f g k env = (f env).bind fun r => (g r.2).bind fun q => (liftO (o r.1 q.1) q.2).bind fun t => (asB t).bind fun t => if t.1 = true then (k t.2).bind fun u => (liftO (o' q.1 u.1) u.2).bind fun z => .ok z else .ok (.bool false, t.2) := rfl
@[simp] theorem xCall_ap : xCall n F l env = (l env).bind fun r => if r.1.length = n then (match F r.1 with
  | .ok d => .ok (d, r.2)
  | .exc c d _ => .exc c d r.2
  | .bad => .bad) else .bad := rfl
@[simp] theorem sNext_ap : sNext env = .ok (.nx, env) := rfl
@[simp] theorem sSeq_ap : sSeq p q env = (p env).bind fun r => match r.1 with
  | .nx => q r.2
  | fl => .ok (fl, r.2) := rfl
@[simp] theorem sSet_ap : sSet i f env = (f env).bind fun r => .ok (.nx, r.2.set i (.fz r.1)) := rfl
@[simp] theorem sOwn_ap : sOwn i f env = (f env).bind fun r => .ok (.nx, r.2.set i (.ow none r.1)) := rfl
@[simp] theorem sDrop_ap : sDrop f env = (f env).bind fun r => .ok (.nx, r.2) := rfl
@[simp] theorem sRet_ap : sRet f env = (f env).bind fun r => .ok (.rt r.1, r.2) := rfl
@[simp] theorem sRetN_ap : sRetN env = .ok (.rt .none, env) := rfl
@[simp] theorem sIf_ap : sIf c p q env = (c env).bind fun r => if r.1 = true then p r.2 else q r.2 := rfl
@[simp] theorem sPar2_ap : sPar2 i j l env = (l env).bind fun r => match r.1 with
  | [a, b] => .ok (.nx, (r.2.set i (.fz a)).set j (.fz b))
  | _ => .bad := rfl
@[simp] theorem sAsg_ap : sAsg G f env = (f env).bind fun r => match G r.1 r.2 with
  | some e => .ok (.nx, e)
  | none => .bad := rfl
@[simp] theorem gN_ap : gN i d env = some (env.set i (.fz d)) := rfl
@[simp] theorem gT_ap {ds : List D} : gT GL (.tuple ds) env = GL ds env := rfl
@[simp] theorem glNil_ap : glNil [] env = some env := rfl
@[simp] theorem glCons_ap {r : List D} : glCons G GL (d :: r) env = (G d env).bind (GL r) := rfl
@[simp] theorem sFor_ap : sFor w G p env = (w env).bind fun r => forL G p r.1 r.2 := rfl
@[simp] theorem iSeq_ap : iSeq f env = (f env).bind fun r => liftO (seqD r.1) r.2 := rfl
@[simp] theorem iArgs_ap {op : List D → Option (List D)} : iArgs op l env = (l env).bind fun r => liftO (op r.1) r.2 := rfl
@[simp] theorem pNo_ap : pNo env = .ok (none, env) := rfl
@[simp] theorem pAt_ap : pAt f env = (f env).bind asI := rfl
@[simp] theorem asI_int {x : Int} : asI (.int x, env) = .ok (some x, env) := rfl
@[simp] theorem xSl_ap {pl ph : PF} : xSl f pl ph env = (f env).bind fun r => (pl r.2).bind fun l => (ph l.2).bind fun h => liftO (slD r.1 l.1 h.1) h.2 := rfl
@[simp] theorem xComp_ap {vs : List Nat} : xComp w G c f vs env = ((w env).bind fun r => match cmpL G c f vs r.1 (wipeE r.2 vs) with
  | .ok (ds, e) => if ds.length ≤ sizeLine then .ok (ds, backE r.2 e vs) else .bad
  | _ => .bad).bind fun r => .ok (.list r.1, r.2) := rfl
@[simp] theorem xSortSet_ap : xSortSet f env = (f env).bind fun r => liftO (sortSetD r.1) r.2 := rfl
def owOf : Option Sl → Option D
  | some (.ow _ c) => some c
  | _ => none
@[simp] theorem owOf_ow {t : Option Nat} : owOf (some (.ow t d)) = some d := rfl
@[simp] theorem xVar_ow (h : owOf env[i]? = some d) : xVar i env = .ok (d, env.set i (.fz d)) := by
  unfold xVar
  cases e : env[i]? with
  | none => rw [e] at h; cases h
  | some s =>
    rw [e] at h
    cases s with
    | ow t c => cases h; rfl
    | _ => cases h
@[simp] theorem xLenS_ap {ns : List Int} (h : env[i]? = some (.sc ns)) : xLenS i env = .ok (.int ns.length, env) := by unfold xLenS; rw [h]
@[simp] theorem xAtS_ap {ns : List Int} (h : env[i]? = some (.sc ns)) : xAtS i f env = (f env).bind fun r => match r.1 with
    | .int k => liftO ((L2.atI ns k).map .int) r.2
    | _ => .bad := by unfold xAtS; rw [h]; try rfl
@[simp] theorem xCallS_ap {ns : List Int} {F : FS} (h : env[i]? = some (.sc ns)) : xCallS i F env = (match F ns with
    | .ok d => .ok (d, env)
    | .exc c d _ => .exc c d env
    | .bad => .bad) := by unfold xCallS; rw [h]; try rfl
def isOwl : Option Sl → Bool
  | some (.ow _ (.list _)) => true
  | _ => false
@[simp] theorem isOwl_ow {t : Option Nat} {ds : List D} : isOwl (some (.ow t (.list ds))) = true := rfl
@[simp] theorem xMutL_ap {op : List D → List D → Option (D × List D)} (h : isOwl env[i]? = true) : xMutL i op l env = (l env).bind fun r => match r.2[i]? with
    | some (.ow t (.list ds)) => (match op ds r.1 with
      | some (z, ds') => .ok (z, r.2.set i (.ow t (.list ds')))
      | none => .bad)
    | _ => .bad := by
  unfold xMutL
  cases e : env[i]? with
  | none => rw [e] at h; cases h
  | some s =>
    rw [e] at h
    unfold isOwl at h
    split at h
    · rename_i q
      cases q
      rfl
    · cases h
theorem for_args {op : List D → Option (List D)} {ds xs : List D} {e1 : Ev} (h : l env = .ok (ds, e1)) (h2 : op ds = some xs) : sFor (iArgs op l) G p env = forL G p xs e1 := by
  unfold sFor iArgs
  rw [h]
  simp only [Out.bind_ok, h2, liftO_some]
theorem for_seq {xs : List D} {d : D} {e1 : Ev} (h : f env = .ok (d, e1)) (h2 : seqD d = some xs) : sFor (iSeq f) G p env = forL G p xs e1 := by
  unfold sFor iSeq
  rw [h]
  simp only [Out.bind_ok, h2, liftO_some]
theorem app_ok {ds : List D} (h : ds.length < sizeLine) : opApp ds [d] = some (.none, ds ++ [d]) := if_pos h
theorem app_small {ds : List D} (h : ds.length < 16777216) : opApp ds [d] = some (.none, ds ++ [d]) := app_ok (by rw [sizeLine_eq]; exact h)
@[simp] theorem absD_i {x : Int} : absD [.int x] = some (.int (if x < 0 then -x else x)) := rfl
@[simp] theorem min2_i {x y : Int} : min2D [.int x, .int y] = some (.int (if y < x then y else x)) := rfl
@[simp] theorem max2_i {x y : Int} : max2D [.int x, .int y] = some (.int (if x < y then y else x)) := rfl
theorem rng1_ok {x : Int} (h : x < 4611686018427387904) (h2 : -4611686018427387904 < x) : rng1 [.int x] = some (rngD 0 1 x.toNat) := by
  have : s62 x = true := by simp [s62]; omega
  unfold rng1
  simp [this]
@[simp] theorem lenD_l {ds : List D} : lenD [.list ds] = some (.int ds.length) := rfl
@[simp] theorem lenD_t {ds : List D} : lenD [.tuple ds] = some (.int ds.length) := rfl
@[simp] theorem intD_i {x : Int} : intD [.int x] = some (.int x) := rfl
@[simp] theorem ixD_l {ds : List D} {x : Int} : ixD (.list ds) (.int x) = atI ds x := rfl
@[simp] theorem ixD_t {ds : List D} {x : Int} : ixD (.tuple ds) (.int x) = atI ds x := rfl
end
@[simp] theorem add_int (i j : Int) : addD (.int i) (.int j) = some (.int (i + j)) := rfl
@[simp] theorem sub_int (i j : Int) : subD (.int i) (.int j) = some (.int (i - j)) := rfl
@[simp] theorem neg_int (i : Int) : negD (.int i) = some (.int (-i)) := rfl
theorem mod_int {i j : Int} (h : 0 < j) : modD (.int i) (.int j) = some (.int (i % j)) := by
  unfold modD
  simp only
  rw [if_pos (by omega), Int.fmod_eq_emod_of_nonneg _ (by omega)]
theorem fdiv_int {i j : Int} (h : 0 < j) (h2 : j < 1073741824) : fdivD (.int i) (.int j) = some (.int (i / j)) := by
  unfold fdivD
  simp only
  rw [if_pos ⟨by omega, by omega⟩, Int.fdiv_eq_ediv_of_nonneg _ (by omega)]
theorem mul_r {i j : Int} (h : s64 j = true) : mulD (.int i) (.int j) = some (.int (i * j)) := by
  unfold mulD
  simp [h]
theorem mul_l {i j : Int} (h : s64 i = true) : mulD (.int i) (.int j) = some (.int (i * j)) := by
  unfold mulD
  simp [h]
theorem okD_leaf {x y : D} (h : x.depth = 0) : okD x y = true := by
  unfold okD
  rw [h]
  simp
@[simp] theorem lt_int (i j : Int) : ltD (.int i) (.int j) = some (.bool (decide (i < j))) := by
  unfold ltD
  rw [if_pos (by simp [PySem.W.alike, notNone, okD, PyData.depth]), PySem.W.dataLt_int]
@[simp] theorem gt_int (i j : Int) : gtD (.int i) (.int j) = some (.bool (decide (j < i))) := by
  unfold gtD
  rw [if_pos (by simp [PySem.W.alike, notNone, okD, PyData.depth]), PySem.W.dataLt_int]
@[simp] theorem le_int (i j : Int) : leD (.int i) (.int j) = some (.bool (decide (i ≤ j))) := by
  unfold leD
  rw [if_pos (by simp [PySem.W.alike, notNone, okD, PyData.depth]), PySem.W.dataLt_int]
  congr 2
  by_cases h : i ≤ j
  · rw [decide_eq_true h, decide_eq_false (by omega)]; rfl
  · rw [decide_eq_false h, decide_eq_true (by omega)]; rfl
@[simp] theorem ge_int (i j : Int) : geD (.int i) (.int j) = some (.bool (decide (j ≤ i))) := by
  unfold geD
  rw [if_pos (by simp [PySem.W.alike, notNone, okD, PyData.depth]), PySem.W.dataLt_int]
  congr 2
  by_cases h : j ≤ i
  · rw [decide_eq_true h, decide_eq_false (by omega)]; rfl
  · rw [decide_eq_false h, decide_eq_true (by omega)]; rfl
@[simp] theorem eq_int (i j : Int) : eqD (.int i) (.int j) = some (.bool (decide (i = j))) := by
  unfold eqD
  rw [if_pos (by simp [PyData.plain, okD, PyData.depth])]
  simp only [PyData.eqv]
  exact congrArg (fun b => some (PyData.bool b)) (by rw [Bool.eq_iff_iff]; simp)
@[simp] theorem ne_int (i j : Int) : neD (.int i) (.int j) = some (.bool (decide (i ≠ j))) := by
  unfold neD
  rw [if_pos (by simp [PyData.plain, okD, PyData.depth])]
  simp only [PyData.eqv]
  exact congrArg (fun b => some (PyData.bool b)) (by rw [Bool.eq_iff_iff]; simp)
@[simp] theorem eq_strD (x y : Str) : eqD (.str x) (.str y) = some (.bool (decide (x = y))) := by
  unfold eqD
  rw [if_pos (by simp [PyData.plain, okD, PyData.depth])]
  simp only [PyData.eqv]
  exact congrArg (fun b => some (PyData.bool b)) (by rw [Bool.eq_iff_iff]; simp)
@[simp] theorem ne_strD (x y : Str) : neD (.str x) (.str y) = some (.bool (decide (x ≠ y))) := by
  unfold neD
  rw [if_pos (by simp [PyData.plain, okD, PyData.depth])]
  simp only [PyData.eqv]
  exact congrArg (fun b => some (PyData.bool b)) (by rw [Bool.eq_iff_iff]; simp)
end DP
set_option Elab.async false
set_option linter.all false
set_option maxRecDepth 100000
/-! DP, part 23: plain laws of sorted tuples of ints, of dicts with int keys, of comprehensions. -/
namespace DP
open PySem PySem.Spec PyProof.Rows L2

theorem cmp_ex {g : GF} {el : XF} {vs : List Nat} {env : Ev} {R : D → Prop} : ∀ xs : List D, (∀ x ∈ xs, ∃ e1 y, g x env = some e1 ∧ el e1 = .ok (y, e1) ∧ wipeE e1 vs = env ∧ R y) → ∃ ys, cmpL g tTrue el vs xs env = .ok (ys, env) ∧ ys.length = xs.length ∧ ∀ y ∈ ys, R y
  | [], _ => ⟨[], rfl, rfl, fun _ h => nomatch h⟩
  | x :: xs, h => by
    obtain ⟨e1, y, h1, h2, h3, h4⟩ := h x List.mem_cons_self
    obtain ⟨ys, h5, h6, h7⟩ := cmp_ex xs fun z hz => h z (List.mem_cons_of_mem _ hz)
    refine ⟨y :: ys, ?_, by simp [h6], fun z hz => (List.mem_cons.mp hz).elim (fun e => e ▸ h4) (h7 z)⟩
    unfold cmpL
    rw [h1]
    simp only [tTrue, Out.bind_ok, if_true, h2, h3, h5]
theorem cmp_ix {g : GF} {el : XF} {vs : List Nat} {env : Ev} {F : Nat → D} : ∀ (xs : List D) (n : Nat), (∀ i x, xs[i]? = some x → ∃ e1, g x env = some e1 ∧ el e1 = .ok (F (n + i), e1) ∧ wipeE e1 vs = env) → cmpL g tTrue el vs xs env = .ok ((List.range' n xs.length).map F, env)
  | [], n, _ => rfl
  | x :: xs, n, h => by
    obtain ⟨e1, h1, h2, h3⟩ := h 0 x rfl
    have ih := cmp_ix xs (n + 1) fun i y hy => by
      obtain ⟨e2, a, b, c⟩ := h (i + 1) y (by simpa using hy)
      exact ⟨e2, a, by rw [show n + 1 + i = n + (i + 1) by omega]; exact b, c⟩
    unfold cmpL
    rw [h1]
    simp only [tTrue, Out.bind_ok, if_true, h2, h3, ih, List.length_cons, List.range'_succ, List.map_cons, Nat.add_zero]
theorem cmp2_all {g g1 : GF} {it1 : IF} {el : XF} {vs vs1 : List Nat} {env : Ev} {f : D → List D} : ∀ xs : List D, (∀ x ∈ xs, ∃ e1 i e2 e3, g x env = some e1 ∧ it1 e1 = .ok (i, e2) ∧ cmpL g1 tTrue el vs1 i (wipeE e2 vs1) = .ok (f x, e3) ∧ wipeE e3 vs = env) →
    cmp2L g tTrue it1 g1 tTrue el vs vs1 xs env = .ok ((xs.map f).flatten, env)
  | [], _ => rfl
  | x :: xs, h => by
    obtain ⟨e1, i, e2, e3, h1, h2, h3, h4⟩ := h x List.mem_cons_self
    unfold cmp2L
    rw [h1]
    simp only [tTrue, Out.bind_ok, if_true, h2, h3, h4, cmp2_all xs fun y hy => h y (List.mem_cons_of_mem _ hy), List.map_cons, List.flatten_cons]
theorem comp2_ok {it : IF} {g : GF} {ts : TF} {it1 : IF} {g1 : GF} {ts1 : TF} {el : XF} {vs vs1 : List Nat} {env e1 e2 : Ev} {xs ys : List D} (h1 : it env = .ok (xs, e1)) (h2 : cmp2L g ts it1 g1 ts1 el vs vs1 xs (wipeE e1 vs) = .ok (ys, e2)) (h3 : ys.length ≤ sizeLine) : xComp2 it g ts it1 g1 ts1 el vs vs1 env = .ok (.list ys, backE e1 e2 vs) := by
  unfold xComp2 lComp2
  rw [h1]
  simp only [Out.bind_ok, h2, if_pos h3]
theorem comp_ok {it : IF} {g : GF} {ts : TF} {el : XF} {vs : List Nat} {env e1 e2 : Ev} {xs ys : List D} (h1 : it env = .ok (xs, e1)) (h2 : cmpL g ts el vs xs (wipeE e1 vs) = .ok (ys, e2)) (h3 : ys.length ≤ sizeLine) : xComp it g ts el vs env = .ok (.list ys, backE e1 e2 vs) := by
  unfold xComp lComp
  rw [h1]
  simp only [Out.bind_ok, h2, if_pos h3]
theorem args_ok {op : List D → Option (List D)} {l : AF} {env e1 : Ev} {ds xs : List D} (h : l env = .ok (ds, e1)) (h2 : op ds = some xs) : iArgs op l env = .ok (xs, e1) := by
  unfold iArgs
  rw [h]
  simp only [Out.bind_ok, h2, liftO_some]
theorem seq_ok {f : XF} {env e1 : Ev} {d : D} {xs : List D} (h : f env = .ok (d, e1)) (h2 : seqD d = some xs) : iSeq f env = .ok (xs, e1) := by
  unfold iSeq
  rw [h]
  simp only [Out.bind_ok, h2, liftO_some]
theorem its_of {R : List Int → Prop} : ∀ ys : List D, (∀ y ∈ ys, ∃ l, y = tupI l ∧ R l) → ∃ L : List (List Int), ys = L.map tupI ∧ ∀ l ∈ L, R l
  | [], _ => ⟨[], rfl, fun _ h => nomatch h⟩
  | y :: ys, h => by
    obtain ⟨l, rfl, h1⟩ := h y List.mem_cons_self
    obtain ⟨L, rfl, h2⟩ := its_of ys fun z hz => h z (List.mem_cons_of_mem _ hz)
    exact ⟨l :: L, rfl, fun z hz => (List.mem_cons.mp hz).elim (fun e => e ▸ h1) (h2 z)⟩
theorem depth_ints : ∀ l : List Int, PyData.depthAll (l.map PyData.int) = 0
  | [] => by simp [PyData.depthAll]
  | x :: l => by simp [PyData.depthAll, PyData.depth, depth_ints l]
theorem depth_tupI (l : List Int) : (tupI l).depth = 1 := by simp [PyData.depth, depth_ints]
theorem srtOk_tups {L : List (List Int)} (h : ∀ l ∈ L, l ≠ []) : srtOk (L.map tupI) = true := by
  simp only [srtOk, Bool.and_eq_true, Bool.or_eq_true, List.all_eq_true, List.mem_map, decide_eq_true_eq]
  refine ⟨⟨?_, .inl ?_⟩, ?_⟩
  · rintro x ⟨a, ha, rfl⟩ y ⟨b, hb, rfl⟩
    simp only [PySem.W.alike]
    exact alike_ints a b
  · rintro x ⟨a, ha, rfl⟩
    cases a with
    | nil => exact absurd rfl (h _ ha)
    | cons i a => rfl
  · rintro x ⟨a, ha, rfl⟩
    rw [depth_tupI]
    omega
theorem sortL_tups (L : List (List Int)) : sortL (L.map tupI) = (L.mergeSort leI).map tupI := by
  unfold sortL
  exact (List.map_mergeSort (r := leI) (s := dLe) (f := tupI) (l := L) fun a _ b _ => (dLe_tupI a b).symm).symm
theorem strict_of : ∀ {L : List (List Int)}, L.Nodup → L.Pairwise (fun a b => leI a b = true) → L.Pairwise (fun a b => lexI a b = true)
  | [], _, _ => List.Pairwise.nil
  | a :: L, n, p => by
    obtain ⟨n1, n2⟩ := List.nodup_cons.mp n
    obtain ⟨p1, p2⟩ := List.pairwise_cons.mp p
    refine List.pairwise_cons.mpr ⟨fun b hb => ?_, strict_of n2 p2⟩
    cases e : lexI a b with
    | true => rfl
    | false =>
      have h := p1 b hb
      unfold leI at h
      rw [Bool.not_eq_true'] at h
      have := lexI_tri e h
      subst this
      exact absurd hb n1
theorem sort_strict {L : List (List Int)} (n : L.Nodup) : (L.mergeSort leI).Pairwise (fun a b => lexI a b = true) :=
  strict_of ((List.mergeSort_perm L leI).nodup_iff.mpr n) (List.pairwise_mergeSort (fun a b c => leI_trans a b c) (fun a b => leI_total a b) L)
theorem setI_strict (L : List (List Int)) : (setI L).Pairwise (fun a b => lexI a b = true) := sort_strict (nodup_dups _ L (Nat.le_refl _))
theorem mem_setI {L : List (List Int)} {l : List Int} : l ∈ setI L ↔ l ∈ L := by
  unfold setI
  rw [(List.mergeSort_perm _ _).mem_iff, List.mem_eraseDups]
theorem dups_len {α : Type} [BEq α] [LawfulBEq α] : ∀ (n : Nat) (xs : List α), xs.length ≤ n → xs.eraseDups.length ≤ xs.length
  | _, [], _ => by simp
  | 0, x :: xs, h => by simp at h
  | n + 1, x :: xs, h => by
    rw [List.eraseDups_cons, List.length_cons, List.length_cons]
    have h1 := List.length_filter_le (fun b => !b == x) xs
    have h2 := dups_len n (xs.filter fun b => !b == x) (Nat.le_trans h1 (by simpa using h))
    omega
theorem setI_len (L : List (List Int)) : (setI L).length ≤ L.length := by
  unfold setI
  rw [List.length_mergeSort]
  exact dups_len _ L (Nat.le_refl _)
theorem intsD_map : ∀ l : List Int, intsD (l.map PyData.int) = some l
  | [] => rfl
  | x :: l => by simp [intsD, intsD_map l]
theorem itsD_map : ∀ L : List (List Int), itsD (L.map tupI) = some L
  | [] => rfl
  | l :: L => by
    rw [List.map_cons]
    unfold itsD isIT
    simp [intsD_map, itsD_map L]
theorem sortSet_tups {L : List (List Int)} (h : ∀ l ∈ L, l ≠ []) (h2 : L.length < 64) : sortSetD (.list (L.map tupI)) = some (.list ((setI L).map tupI)) := by
  unfold sortSetD
  simp only [itsD_map]
  rw [if_pos ⟨by rw [List.length_map]; exact h2, srtOk_tups h⟩]
/-- a strictly sorted row is the one of its set -/
theorem setI_of_strict {L : List (List Int)} (h : L.Pairwise (fun a b => lexI a b = true)) : setI L = L := by
  have n : L.Nodup := h.imp fun {a b} q e => by
    subst e
    rw [lexI_irrefl] at q
    cases q
  refine sorted_one (le := leI) (fun a b => leI_anti) ?_ (List.pairwise_mergeSort (fun a b c => leI_trans a b c) (fun a b => leI_total a b) _) (h.imp fun {a b} q => by unfold leI; rw [lexI_asymm q]; rfl)
  exact (List.mergeSort_perm _ _).trans (perm_dups n (fun _ q => q) fun _ q => q).symm

/-! ### dicts with int keys and int values -/
abbrev ii (p : Int × Int) : D × D := (.int p.1, .int p.2)
def putI (qs : List (Int × Int)) (k v : Int) : List (Int × Int) := if qs.any (fun p => decide (p.1 = k)) = true then qs.map (fun p => if p.1 = k then (p.1, v) else p) else qs ++ [(k, v)]
theorem kIs_int (k : Int) (p : Int × Int) : kIs (.int k) (ii p) = decide (p.1 = k) := by
  unfold kIs
  simp [keyD]
theorem dPut_ii (qs : List (Int × Int)) (k v : Int) : dPut (qs.map ii) (.int k) (.int v) = (putI qs k v).map ii := by
  unfold dPut putI
  have e : (qs.map ii).any (kIs (.int k)) = qs.any fun p => decide (p.1 = k) := by
    rw [List.any_map]
    congr 1
    funext p
    exact kIs_int k p
  rw [e]
  split
  · rw [List.map_map, List.map_map]
    refine List.map_congr_left fun p _ => ?_
    simp only [Function.comp, kIs_int, decide_eq_true_eq]
    split <;> rfl
  · simp
theorem putI_nodup {qs : List (Int × Int)} {k v : Int} (n : (qs.map (·.1)).Nodup) : ((putI qs k v).map (·.1)).Nodup := by
  unfold putI
  split
  · rw [List.map_map]
    have : ((fun p : Int × Int => p.1) ∘ fun p => if p.1 = k then (p.1, v) else p) = fun p => p.1 := by
      funext p
      simp only [Function.comp]
      split <;> rfl
    rw [this]
    exact n
  · rename_i c
    rw [List.map_append, List.nodup_append]
    refine ⟨n, by simp, ?_⟩
    intro a ha b hb
    simp only [List.map_cons, List.map_nil, List.mem_singleton] at hb
    subst hb
    rintro rfl
    obtain ⟨p, hp, e⟩ := List.mem_map.mp ha
    exact c (List.any_eq_true.mpr ⟨p, hp, decide_eq_true e⟩)
theorem putI_mem {qs : List (Int × Int)} {k v : Int} {p : Int × Int} (h : p ∈ putI qs k v) : p ∈ qs ∨ p = (k, v) := by
  unfold putI at h
  split at h
  · obtain ⟨q, hq, e⟩ := List.mem_map.mp h
    split at e
    · rename_i c
      exact .inr (by rw [← e, c])
    · exact .inl (e ▸ hq)
  · rcases List.mem_append.mp h with q | q
    · exact .inl q
    · exact .inr (List.mem_singleton.mp q)
theorem dMerge_ii : ∀ (more acc : List (Int × Int)), (acc.map (·.1)).Nodup → ∃ rs : List (Int × Int), dMerge (acc.map ii) (more.map ii) = rs.map ii ∧ (rs.map (·.1)).Nodup ∧ (∀ p ∈ rs, p ∈ acc ∨ p ∈ more) ∧ rs.length ≤ acc.length + more.length
  | [], acc, n => ⟨acc, rfl, n, fun p h => .inl h, Nat.le_refl _⟩
  | q :: more, acc, n => by
    obtain ⟨rs, h1, h2, h3, h4⟩ := dMerge_ii more (putI acc q.1 q.2) (putI_nodup n)
    refine ⟨rs, ?_, h2, fun p hp => ?_, ?_⟩
    · show dMerge (dPut (acc.map ii) (.int q.1) (.int q.2)) (more.map ii) = _
      rw [dPut_ii, h1]
    · rcases h3 p hp with z | z
      · rcases putI_mem z with y | y
        · exact .inl y
        · exact .inr (by rw [y]; exact List.mem_cons_self)
      · exact .inr (List.mem_cons_of_mem _ z)
    · have := dPut_len (acc.map ii) (.int q.1) (.int q.2)
      rw [dPut_ii, List.length_map, List.length_map] at this
      rw [List.length_cons]
      omega
theorem pairsD_ii : ∀ L : List (Int × Int), pairsD (L.map fun p => tupI [p.1, p.2]) = some (L.map ii)
  | [] => rfl
  | p :: L => by
    rw [List.map_cons]
    have : keyOk (.int p.1) = true := by simp [keyOk, keyD, NestedKey.depth]
    show ((if keyOk (.int p.1) = true then some (PyData.int p.1, PyData.int p.2) else none).bind fun q => (pairsD (L.map fun p => tupI [p.1, p.2])).map fun l => q :: l) = _
    rw [if_pos this, pairsD_ii L]
    rfl
/-- sorted(dict(pairs).items()) -/
theorem sortItems_ii (L : List (Int × Int)) : ∃ rs : List (List Int), ((dictD [.list (L.map fun p => tupI [p.1, p.2])]).bind sortItemsD) = some (.list (rs.map tupI)) ∧ rs.Pairwise (fun a b => lexI a b = true) ∧ (∀ r ∈ rs, ∃ p ∈ L, r = [p.1, p.2]) ∧ rs.length ≤ L.length := by
  obtain ⟨qs, h1, h2, h3, h4⟩ := dMerge_ii L [] List.nodup_nil
  have e : (qs.map ii).map pairT = (qs.map fun p => [p.1, p.2]).map tupI := by
    rw [List.map_map, List.map_map]
    rfl
  have ok : srtOk ((qs.map ii).map pairT) = true := by
    rw [e]
    refine srtOk_tups fun l hl => ?_
    obtain ⟨p, _, rfl⟩ := List.mem_map.mp hl
    exact fun z => nomatch z
  have nd : (qs.map fun p => [p.1, p.2]).Nodup := by
    refine List.pairwise_map.mpr ((List.pairwise_map.mp h2).imp fun {a b} q z => ?_)
    simp only [List.cons.injEq, and_true] at z
    exact q z.1
  refine ⟨(qs.map fun p => [p.1, p.2]).mergeSort leI, ?_, sort_strict nd, fun r hr => ?_, ?_⟩
  · unfold dictD
    simp only
    rw [pairsD_ii]
    show (some (PyData.dict (dMerge [] (L.map ii)))).bind sortItemsD = _
    have h1' : dMerge [] (L.map ii) = qs.map ii := h1
    rw [h1']
    show sortItemsD (.dict (qs.map ii)) = _
    unfold sortItemsD
    simp only
    rw [if_pos ok, e, sortL_tups]
  · have := (List.mergeSort_perm _ _).mem_iff.mp hr
    obtain ⟨p, hp, rfl⟩ := List.mem_map.mp this
    exact ⟨p, (h3 p hp).resolve_left (fun z => nomatch z), rfl⟩
  · rw [List.length_mergeSort, List.length_map]
    simpa using h4
theorem lt_tupI (a b : List Int) : ltD (tupI a) (tupI b) = some (.bool (lexI a b)) := by
  unfold ltD
  rw [if_pos (by
    simp only [PySem.W.alike, alike_ints, notNone, okD, depth_tupI, Bool.and_self, Bool.true_and]
    decide), dataLt_tupI]
theorem boolsD_map : ∀ l : List Bool, boolsD (l.map PyData.bool) = some l
  | [] => rfl
  | x :: l => by simp [boolsD, boolsD_map l]
theorem allD_map (l : List Bool) : allD [.list (l.map PyData.bool)] = some (.bool (l.all id)) := by
  unfold allD
  simp [boolsD_map]
theorem at_int {l : List Int} {i : Nat} {x : Int} (h : l[i]? = some x) : L2.atI (l.map PyData.int) (i : Int) = some (.int x) := by
  refine atI_nat (j := i) ?_
  rw [List.getElem?_map, h]
  rfl
theorem for_find {g : GF} {body : SF} {d : D} (I : Ev → Prop) (bad : D → Bool) : ∀ (xs : List D) (env : Ev), (∀ x ∈ xs, ∀ env, I env → ∃ e1, g x env = some e1 ∧ (bad x = true → ∃ e2, body e1 = .ok (.rt d, e2)) ∧ (bad x = false → ∃ e2, body e1 = .ok (.nx, e2) ∧ I e2)) → I env →
    (xs.any bad = true → ∃ e2, forL g body xs env = .ok (.rt d, e2)) ∧ (xs.any bad = false → ∃ e2, forL g body xs env = .ok (.nx, e2) ∧ I e2)
  | [], env, _, h => ⟨fun z => by simp at z, fun _ => ⟨env, rfl, h⟩⟩
  | x :: xs, env, step, h => by
    obtain ⟨e1, h1, h2, h3⟩ := step x List.mem_cons_self env h
    cases hb : bad x with
    | true =>
      obtain ⟨e2, h4⟩ := h2 hb
      refine ⟨fun _ => ⟨e2, ?_⟩, fun z => by simp [hb] at z⟩
      unfold forL
      rw [h1]
      simp only [h4, Out.bind_ok]
    | false =>
      obtain ⟨e2, h4, h5⟩ := h3 hb
      obtain ⟨k1, k2⟩ := for_find I bad xs e2 (fun y hy => step y (List.mem_cons_of_mem _ hy)) h5
      have e : forL g body (x :: xs) env = forL g body xs e2 := by
        conv => lhs; unfold forL
        rw [h1]
        simp only [h4, Out.bind_ok]
      rw [e]
      simp only [List.any_cons, hb, Bool.false_or]
      exact ⟨k1, k2⟩
theorem eqv_ints : ∀ a b : List Int, PyData.eqvAll (a.map PyData.int) (b.map PyData.int) = decide (a = b)
  | [], [] => by simp [PyData.eqvAll]
  | [], _ :: _ => by simp [PyData.eqvAll]
  | _ :: _, [] => by simp [PyData.eqvAll]
  | x :: a, y :: b => by
    rw [List.map_cons, List.map_cons, PyData.eqvAll, eqv_ints a b]
    simp only [PyData.eqv]
    rw [Bool.eq_iff_iff]
    simp
theorem eqv_tups : ∀ a b : List (List Int), PyData.eqvAll (a.map tupI) (b.map tupI) = decide (a = b)
  | [], [] => by simp [PyData.eqvAll]
  | [], _ :: _ => by simp [PyData.eqvAll]
  | _ :: _, [] => by simp [PyData.eqvAll]
  | x :: a, y :: b => by
    rw [List.map_cons, List.map_cons, PyData.eqvAll, eqv_tups a b]
    simp only [PyData.eqv, eqv_ints]
    rw [Bool.eq_iff_iff]
    simp
theorem plain_ints : ∀ a : List Int, PyData.plainAll (a.map PyData.int) = true
  | [] => by simp [PyData.plainAll]
  | x :: a => by simp [PyData.plainAll, PyData.plain, plain_ints a]
theorem plain_tups : ∀ a : List (List Int), PyData.plainAll (a.map tupI) = true
  | [] => by simp [PyData.plainAll]
  | x :: a => by
    rw [List.map_cons, PyData.plainAll, plain_tups a]
    simp [PyData.plain, plain_ints]
theorem depth_tups : ∀ L : List (List Int), PyData.depthAll (L.map tupI) ≤ 1
  | [] => by simp [PyData.depthAll]
  | x :: L => by
    have := depth_tups L
    rw [List.map_cons, PyData.depthAll, depth_tupI]
    omega
theorem ne_tups (a b : List (List Int)) : neD (.list (a.map tupI)) (.list (b.map tupI)) = some (.bool (decide (a ≠ b))) := by
  unfold neD
  have h1 : okD (.list (a.map tupI)) (.list (b.map tupI)) = true := by
    unfold okD
    have := depth_tups a
    have e : (PyData.list (a.map tupI)).depth = PyData.depthAll (a.map tupI) + 1 := by simp only [PyData.depth]
    refine decide_eq_true (Nat.le_trans (Nat.min_le_left _ _) ?_)
    rw [e]
    omega
  rw [if_pos (by simp [PyData.plain, plain_tups, h1])]
  refine congrArg (fun b => some (PyData.bool b)) ?_
  simp only [PyData.eqv, eqv_tups]
  rw [Bool.eq_iff_iff]
  simp
end DP
set_option Elab.async false
set_option linter.all false
set_option maxRecDepth 100000
namespace DP
open PySem
mutual
/-- plain data without a dict, its ints under a trillion -/
def nc : D → Bool
  | .none | .bool _ => true
  | .int i => decide (i.natAbs < 10 ^ 12)
  | .str x => x.cps.toList.all fun c => decide (c < 16 ^ 8)
  | .list xs | .tuple xs => ncAll xs
  | .dict _ => false
def ncAll : List D → Bool
  | [] => true
  | x :: xs => nc x && ncAll xs
end
theorem log_small {i : Int} (h : i.natAbs < 10 ^ 12) : i.natAbs.log2 < 1920 := by
  by_cases h0 : i.natAbs = 0
  · rw [h0]; decide
  · have h2 : i.natAbs.log2 < 40 := (Nat.log2_lt h0).mpr (Nat.lt_trans h (by decide))
    omega
mutual
theorem nc_show : ∀ d : D, nc d = true → d.showable = true ∧ d.hasDict = false ∧ d.leavesShort 13 = true ∧ d.plain = true ∧ PySem.W.alike d d = true
  | .none, _ => by simp [PyData.showable, PyData.hasDict, PyData.leavesShort, PyData.plain, PySem.W.alike]
  | .bool _, _ => by simp [PyData.showable, PyData.hasDict, PyData.leavesShort, PyData.plain, PySem.W.alike]
  | .int i, h => by
    have h' : i.natAbs < 10 ^ 12 := by simpa only [nc, decide_eq_true_eq] using h
    refine ⟨?_, rfl, ?_, ?_, ?_⟩
    · simp only [PyData.showable, decide_eq_true_eq]; exact log_small h'
    · simp only [PyData.leavesShort, decide_eq_true_eq]; exact PyData.shown_int_le h'
    · simp [PyData.plain]
    · simp [PySem.W.alike]
  | .str x, h => by
    refine ⟨by simp [PyData.showable], by simp [PyData.hasDict], ?_, by simp [PyData.plain], by simp [PySem.W.alike]⟩
    simp only [nc] at h
    simp only [PyData.leavesShort]
    exact h
  | .list xs, h => by
    simp only [nc] at h
    have := nc_showAll xs h
    simpa only [PyData.showable, PyData.hasDict, PyData.leavesShort, PyData.plain, PySem.W.alike] using this
  | .tuple xs, h => by
    simp only [nc] at h
    have := nc_showAll xs h
    simpa only [PyData.showable, PyData.hasDict, PyData.leavesShort, PyData.plain, PySem.W.alike] using this
  | .dict _, h => by simp [nc] at h
theorem nc_showAll : ∀ xs : List D, ncAll xs = true → PyData.showableAll xs = true ∧ PyData.hasDictAll xs = false ∧ PyData.leavesShortAll 13 xs = true ∧ PyData.plainAll xs = true ∧ PySem.W.alikeAll xs xs = true
  | [], _ => by simp [PyData.showableAll, PyData.hasDictAll, PyData.leavesShortAll, PyData.plainAll, PySem.W.alikeAll]
  | x :: xs, h => by
    simp only [ncAll, Bool.and_eq_true] at h
    obtain ⟨a1, a2, a3, a4, a5⟩ := nc_show x h.1
    obtain ⟨b1, b2, b3, b4, b5⟩ := nc_showAll xs h.2
    simp only [PyData.showableAll, PyData.hasDictAll, PyData.leavesShortAll, PyData.plainAll, PySem.W.alikeAll, a1, a2, a3, a4, a5, b1, b2, b3, b4, b5, Bool.and_self, Bool.or_self, and_self]
end
theorem repr_nc {d : D} (h : nc d = true) (h1 : d.depth ≤ 60) (h2 : d.bulk ≤ 1048576) : reprD [d] = some (.str d.shown) := by
  obtain ⟨a1, a2, a3, a4, a5⟩ := nc_show d h
  have c : d.showable = true ∧ d.hasDict = false ∧ d.depth ≤ 60 ∧ d.shown.length ≤ sizeLine := ⟨a1, a2, h1, PyData.shown_fits_bulk (B := 13) (by decide) (by decide) a3 (by simpa using h2)⟩
  exact if_pos c
theorem ne_nc {d : D} (h : nc d = true) (h1 : d.depth ≤ 60) : neD d d = some (.bool false) := by
  obtain ⟨a1, a2, a3, a4, a5⟩ := nc_show d h
  unfold neD
  have : okD d d = true := by unfold okD; simp [h1]
  rw [a4, this, PySem.W.eqv_refl_alike d a5]
  rfl
theorem nc_int {i : Int} (h1 : -1000000000000 < i) (h2 : i < 1000000000000) : nc (.int i) = true := by
  simp only [nc, decide_eq_true_eq]
  omega
theorem ncAll_iff : ∀ {xs : List D}, ncAll xs = true ↔ ∀ x ∈ xs, nc x = true
  | [] => by simp [ncAll]
  | x :: xs => by simp [ncAll, ncAll_iff (xs := xs)]
theorem nc_tuple {xs : List D} (h : ∀ x ∈ xs, nc x = true) : nc (.tuple xs) = true := by
  simp only [nc]; exact ncAll_iff.mpr h
theorem nc_list {xs : List D} (h : ∀ x ∈ xs, nc x = true) : nc (.list xs) = true := by
  simp only [nc]; exact ncAll_iff.mpr h
theorem depthAll_le {n : Nat} : ∀ {xs : List D}, (∀ x ∈ xs, x.depth ≤ n) → PyData.depthAll xs ≤ n
  | [], _ => by simp [PyData.depthAll]
  | x :: xs, h => by
    simp only [PyData.depthAll]
    have h1 := h x List.mem_cons_self
    have h2 := depthAll_le (xs := xs) fun y hy => h y (List.mem_cons_of_mem _ hy)
    omega
theorem depth_tuple {n : Nat} {xs : List D} (h : ∀ x ∈ xs, x.depth ≤ n) : (PyData.tuple xs).depth ≤ n + 1 := by
  have := depthAll_le h
  simp only [PyData.depth]; omega
theorem depth_list {n : Nat} {xs : List D} (h : ∀ x ∈ xs, x.depth ≤ n) : (PyData.list xs).depth ≤ n + 1 := by
  have := depthAll_le h
  simp only [PyData.depth]; omega
theorem bulkAll_le {n : Nat} : ∀ {xs : List D}, (∀ x ∈ xs, x.bulk ≤ n) → PyData.bulkAll xs ≤ xs.length * (n + 1)
  | [], _ => by simp [PyData.bulkAll]
  | x :: xs, h => by
    simp only [PyData.bulkAll, List.length_cons, Nat.add_mul]
    have h1 := h x List.mem_cons_self
    have h2 := bulkAll_le (xs := xs) fun y hy => h y (List.mem_cons_of_mem _ hy)
    omega
theorem bulk_tuple {n : Nat} {xs : List D} (h : ∀ x ∈ xs, x.bulk ≤ n) : (PyData.tuple xs).bulk ≤ xs.length * (n + 1) := by
  simp only [PyData.bulk]; exact bulkAll_le h
theorem bulk_list {n : Nat} {xs : List D} (h : ∀ x ∈ xs, x.bulk ≤ n) : (PyData.list xs).bulk ≤ xs.length * (n + 1) := by
  simp only [PyData.bulk]; exact bulkAll_le h
end DP
set_option Elab.async false
set_option linter.all false
set_option maxRecDepth 100000
set_option maxHeartbeats 2000000
/-! DP, part 25: an own error class whose __init__ says super().__init__(at); self.at = at. -/
namespace DP
open PySem PySem.W PySem.Calls PyProof.Rows

def neA (p1 p2 : Pos) : Arguments := { posonlyargs := [], args := [{ arg := "self", annotation := none, pos := p1 }, { arg := "at", annotation := none, pos := p2 }], vararg := none, kwonlyargs := [], kw_defaults := [], kwarg := none, defaults := [] }
def neB (q1 q2 q3 q4 q5 q6 r1 r2 r3 r4 : Pos) : List Stmt :=
  [.Expr (.Call (.Attribute (.Call (.Name "super" q1) [] [] q2) "__init__" q3) [.Name "at" q4] [] q5) q6, .Assign [.Attribute (.Name "self" r1) "at" r2] (.Name "at" r3) r4]
def neS : Scope := { kind := .function, names := [(PySem.Str.ofString "self", .local), (PySem.Str.ofString "at", .local), (PySem.Str.ofString "__class__", .free), (PySem.Str.ofString "super", .globalImplicit)], isGenerator := false, isCoroutine := false, more := [] }
/-- what the written part says of the base class, at B, and of its __init__, at f -/
structure NetB (P : Program) (K : Frag) (mg : Str → Option Value) (B f : Addr) : Prop where
  fn : ∃ (oc : Value) (od : Option Addr) (kV doc pm : Value) (an : Option Addr) (cda : Addr) (ct : Value) (cc : Addr) (osl : Array (Option Value)) (p1 p2 q1 q2 q3 q4 q5 q6 r1 r2 r3 r4 : Pos),
    K.lookup f = some ⟨oc, od, .func (ksFn "__init__" "NetError.__init__" (neA p1 p2) (neB q1 q2 q3 q4 q5 q6 r1 r2 r3 r4) neS .none kV doc pm an (.ref cda) ct cc), osl⟩ ∧ (q3.endLine == q5.line) = true ∧ codeIn K (.ref cda) "NetError.__init__" = true ∧
    (∃ (ccl : Value) (cdd : Option Addr) (vs : Array Value) (ccs : Array (Option Value)) (file : Str) (tf : Tok), K.lookup cda = some ⟨ccl, cdd, .fields vs, ccs⟩ ∧ vs[2]? = some (.str file tf) ∧ ((P.main.file : Str) == file) = true) ∧
    ∃ (cl : Value) (cld : Option Addr) (csl : Array (Option Value)), K.lookup cc = some ⟨cl, cld, .cell (some (.ref B)), csl⟩
  cB : ∃ cd, clsIn K B = some cd
  sup : mg "super" = none
  tp : nsIn K cStatics "thirdparty.any" = some none
  top : (P.main.scope.names.lookup ("super" : Str)).isSome = false
  tI : typeIn K (.ref f) = some (.type "function")
/-- .. and of a class of errors, at C: the base class itself or one below it -/
structure NetC (K : Frag) (B f C : Addr) : Prop where
  cls : ∃ nm q N bs bm sn sub ab col dd k0 k1 k2 k3 k5, K.lookup C = some (excClassObj nm q C N bs bm true sn sub ab col dd k0 k1 k2 k3 k5 "ValueError.__new__") ∧ HandSPX.refsVE bm = true
  sa : findIn K (.ref C) "__setattr__" = some (some (.builtin "object.__setattr__"))
  ga : findIn K (.ref C) "__getattribute__" = some (some (.builtin "BaseException.__getattribute__"))
  gg : findIn K (.ref C) "__getattr__" = some none
  noN : findIn K (.ref C) "at" = some none
  iC : findIn K (.ref C) "__init__" = some (some (.ref f))
  kC : keepIn K (.ref C) = true
  exC : subIn K (.ref C) (.type "BaseException") = some true
  veC : subIn K (.ref C) (.type "ValueError") = some true
  tyC : typeIn K (.ref C) = some (.type "type")
  hdC : hasDictIn K C = true
  mB : mroIn K C (.ref B) = some true
  su : ks_superIn K C B "__init__" = some (some (.builtin "ValueError.__init__"))

theorem ne_meth (env : Env) (q1 q2 q3 q4 q5 : Pos) (hp : (q3.endLine == q5.line) = true) : ∃ pl : Sem Bool, eval (.Call (.Attribute (.Call (.Name "super" q1) [] [] q2) "__init__" q3) [.Name "at" q4] [] q5) env = (do
      let ov ← attributeBase (.Call (.Name "super" q1) [] [] q2) "__init__" env (eval (.Call (.Name "super" q1) [] [] q2) env)
      standAt q3.atName
      let (f, first) ← holding [ov] (getMethod ov "__init__" pl)
      callWith q5 f first (backTo q5 (starEach [.Name "at" q4] env)) []) := by
  have e1 : methodCallPos true (.Call (.Name "super" q1) [] [] q2) env q3 q5 = pure q5 := by
    unfold methodCallPos
    rw [hp]
    rfl
  refine ⟨(do return (← importBound (.Call (.Name "super" q1) [] [] q2) env).getD true), ?_⟩
  have e2 : ∀ ov, methodCall (.Call (.Name "super" q1) [] [] q2) "__init__" q3 q5 env ov 1 (backTo q5 (starEach [.Name "at" q4] env)) [] = (do
      let (f, first) ← holding [ov] (getMethod ov "__init__" (do return (← importBound (.Call (.Name "super" q1) [] [] q2) env).getD true))
      callWith q5 f first (backTo q5 (starEach [.Name "at" q4] env)) []) := fun ov => by
    unfold methodCall
    have e3 : methodCallForm 1 (backTo q5 (starEach [.Name "at" q4] env)) [] = true := by first | rfl | decide
    rw [e3, e1]
    rfl
  show (do
      let ov ← attributeBase (.Call (.Name "super" q1) [] [] q2) "__init__" env (eval (.Call (.Name "super" q1) [] [] q2) env)
      standAt q3.atName
      methodCall (.Call (.Name "super" q1) [] [] q2) "__init__" q3 q5 env ov 1 (backTo q5 (starEach [.Name "at" q4] env)) []) = _
  simp only [e2]
/-- a local name, read -/
theorem ne_local {M : Model} {A : Around} {E : Value → Shared → Prop} {s : Shared} {env : Env} {m : Str → Option Value} {x : Str} {pos : Pos} {v : Value} {Q : Value → Shared → Prop} (hn : s.heap.Ns env.locals m) (hv : m x = some v) (h : Q v s)
    (hk : env.scope.kind = .function) (hl : env.kindOf x = some .local) (hd : (x == ("__debug__" : Str)) = false) : wpAny M A (eval (.Name x pos) env) Q E s := wpAny_Name (wpAny_loadName_local hk hl hn hv h) hd
section
variable {prog : Program} {w : World} {A : Around} {E : Value → Shared → Prop} {h : Heap} {g : Array GenState} {d : Drawn} {t : Nat} {os : OsState}
/-- the bound built-in __init__, called -/
theorem ne_bound {nm q : Str} {C N : Addr} {bs bm : List Value} {hdct : Bool} {sn : List Str} {sub : List Value} {ab : Bool} {col : Option Bool} {dd : Option Addr} {k0 k1 k2 k3 k5 : Option Value} {u e t0 : Addr} {us : List Value} {Q : Value → Shared → Prop}
    (hC : h.get? C = some (excClassObj nm q C N bs bm hdct sn sub ab col dd k0 k1 k2 k3 k5 "ValueError.__new__")) (he : h.get? e = some (HandSPX.excO C t0)) (hu : h.get? u = some (kxs_mw "ValueError.__init__" e)) (hz : us.length ≤ sizeLine)
    (hq : ∀ h' t1, (∀ b o, b ≠ e → h.get? b = some o → h'.get? b = some o) → h'.get? e = some (HandSPX.excO C t1) → Q .none ⟨h', g, d, t, os⟩) :
    wpAny (model prog w) A (call (.ref u) us) Q E ⟨h, g, d, t, os⟩ := by
  refine wpAny_call (codeAny_of_tree (show wpAny _ A.in1 (callAny (.ref u) ⟨us, []⟩) _ _ _ from ?_))
  unfold callAny
  refine wpAny_bind (wpAny_load hu ?_)
  have c1 : (Value.type "method-wrapper" == Value.type "method" || Value.type "method-wrapper" == Value.type "builtin_function_or_method" || Value.type "method-wrapper" == Value.type "method-wrapper") = true := by decide
  simp only [kxs_mw, c1, if_true]
  refine KFB.if_so (by decide) (wpAny_bind ?_)
  refine check_bound_init F.excBase_ValueError.toExcCallFacts hC he rfl ?_
  refine wpAny_bind (wpAny_pure (wpAny_pure ⟨plainId_quiet F.excBase_ValueError.init.plain _, codeAny_builtin F.excBase_ValueError.initEntry ?_⟩))
  rw [Around.under_plainId F.excBase_ValueError.init.plain _]
  wp_walk
  refine hq _ h.objs.size (fun b o n z => ?_) ?_
  · rw [Heap.get?_update_other _ _ (Ne.symm n)]; exact Heap.get?_push_of_some _ z
  · rw [Heap.get?_update_self _ (Heap.get?_push_of_some _ he) rfl]; rfl
end
/-- what __init__ leaves of a fresh exception at x -/
structure NeEnd (h h' : Heap) (x C dx t1 : Addr) (v : Value) : Prop where
  keep : ∀ b o, b ≠ x → h.get? b = some o → h'.get? b = some o
  obj : h'.get? x = some { cls := .ref C, dict := some dx, data := .fields #[.ref t1, .none, .none, .none, .bool false, .none] }
  dbig : h.objs.size ≤ dx
  dne : dx ≠ x
  ns : h'.Ns1 dx (fun y => if y = "at" then some v else none)
section
variable {prog : Program} {w : World} {A : Around} {E : Value → Shared → Prop} {R : Result → Shared → Prop} {s : Shared} {K : Frag} {mg mb : Str → Option Value} {B f C : Addr}
theorem size_le {h h' : Heap} (k : ∀ b o, h.get? b = some o → h'.get? b = some o) {b : Addr} {o : Obj} (n : h'.get? b = some o) (q : ∀ b o, h.get? b = some o → b < h'.objs.size) : b < h'.objs.size := Heap.lt_size n
theorem net_init (T : NetB prog K mg B f) (TC : NetC K B f C) {x t0 : Addr} {v : Value} (X : K.In s.heap) (G : s.heap.Ns mainGlobals mg) (Gb : s.heap.Ns builtinsNs mb) (hb : mb "super" = some (.type "super")) (hlim : s.heap.NoLimit)
    (hx : s.heap.get? x = some (HandSPX.excO C t0)) (hnx : K.lookup x = none) (hroom : A.depth < recursionLimit) (hq : ∀ h' tk dx t1, NeEnd s.heap h' x C dx t1 v → R (.ok (.ret .none)) { s with heap := h', toks := tk }) :
    codeAny (model prog w) A (.call (.ref f) ⟨[.ref x, v], []⟩) R s := by
  obtain ⟨oc, od, kV, doc, pm, an, cda, ct, cc, osl, p1, p2, q1, q2, q3, q4, q5, q6, r1, r2, r3, r4, ho, hql, hcd, ⟨ccl, cdd, vs, ccs, file, tf, hcode, hvs, hfile⟩, cl, cld, csl, hcell⟩ := T.fn
  obtain ⟨nm, q, N, bs, bm, sn, sub, ab, col, dd, k0, k1, k2, k3, k5, hC, hbm⟩ := TC.cls
  obtain ⟨cdB, hB⟩ := T.cB
  have hcl : clsIn K C = some { name := nm, bases := bs, mro := .ref C :: bm, ns := N, qualname := q, hasDict := true, slotNames := sn, subclasses := sub, abstract := ab, collection := col, hasDel := false } := by unfold clsIn; rw [hC] <;> rfl
  refine ks_codeAny_call_defAt (fd := ksFn "__init__" "NetError.__init__" (neA p1 p2) (neB q1 q2 q3 q4 q5 q6 r1 r2 r3 r4) neS .none kV doc pm an (.ref cda) ct cc) (binds := [("self", .ref x), ("at", v)]) hroom (X _ _ ho) rfl hlim (codeRec_of X hcd) rfl
    (BindsTo.of_eq (by first | rfl | with_unfolding_all rfl)) (show ∀ y ∈ neS.names, y.2 ≠ .cell by decide) (locs rfl) (fun h₁ hns k => ?_) rfl rfl rfl
  have X₁ : K.In h₁ := X.keeps k
  have hx₁ := k _ _ hx
  have G₁ := G.keeps k
  have Gb₁ := Gb.keeps k
  have hL : s.heap.objs.size < h₁.objs.size := hns.lt
  have hxL : x < s.heap.objs.size := Heap.lt_size hx
  obtain ⟨oB, hoB, hoB2⟩ : ∃ oB, h₁.get? B = some oB ∧ oB.data = .cls cdB := by
    unfold clsIn at hB
    split at hB
    · rename_i c d cd' sl z
      cases hB
      exact ⟨_, X₁ _ _ z, rfl⟩
    · cases hB
  have I₁ : InstAt h₁ x (HandSPX.excO C t0) C none := ⟨hx₁, rfl, rfl, trivial⟩
  have hxC : x ≠ C := ks_ne X₁ I₁ hcl
  obtain ⟨hp0, g, d, tk, os⟩ := s
  generalize henv : callEnv (ksFn "__init__" "NetError.__init__" (neA p1 p2) (neB q1 q2 q3 q4 q5 q6 r1 r2 r3 r4) neS .none kV doc pm an (.ref cda) ct cc) hp0.objs.size f = env
  have henv' : env = ksEnv "NetError.__init__" neS hp0.objs.size f (.ref cda) cc := by rw [← henv]; rfl
  subst henv'
  obtain ⟨pl, hpl⟩ := ne_meth (ksEnv "NetError.__init__" neS hp0.objs.size f (.ref cda) cc) q1 q2 q3 q4 q5 hql
  refine ks_wpAt_execs_cons (ks_wpAt_Expr_any (ks_wpAt_MethodCall ?_ hpl))
  refine ks_wpAt_super_base (env := ksEnv "NetError.__init__" neS hp0.objs.size f (.ref cda) cc) (by first | rfl | with_unfolding_all rfl | kernel_rfl) (by first | rfl | with_unfolding_all rfl | kernel_rfl) (by decide) rfl (X₁ _ _ ho) rfl (ar := { arg := "self", annotation := none, pos := p1 }) rfl rfl (X₁ _ _ hcode) rfl hvs hfile T.top ?_
  refine ks_loadName_global rfl (by first | rfl | with_unfolding_all rfl | kernel_rfl) (loadGlobal_builtin G₁ T.sup Gb₁ hb ⟨rfl, ?_⟩)
  refine wpAny_loadName_free rfl (by first | rfl | with_unfolding_all rfl | kernel_rfl) (by first | rfl | with_unfolding_all rfl | kernel_rfl) ⟨_, X₁ _ _ hcell, rfl⟩ ?_
  refine wpAny_loadName_local rfl (by first | rfl | with_unfolding_all rfl | kernel_rfl) hns (v := .ref x) (by first | rfl | with_unfolding_all rfl | kernel_rfl) ?_
  refine ks_wpAny_isType_cls hoB hoB2 ⟨rfl, ?_⟩
  refine ks_wpAny_call_super hoB hoB2 hx₁ rfl (fun c e => by cases e) (looks_mroIn X₁ TC.mB) (fun h₂ e₂ k₂ => ?_)
  have X₂ : K.In h₂ := X₁.keeps k₂
  have hsu := TC.su
  unfold ks_superIn at hsu
  rw [hcl] at hsu
  have hI₂ : Looks (model prog w) h₂ (isInstance (.ref x) (.type "ValueError")) true := (show InstAt h₂ x (HandSPX.excO C t0) C none from ⟨k₂ _ _ hx₁, rfl, rfl, trivial⟩).type.andThen (looks_subIn X₂ TC.veC)
  refine kxs_getMethod kxs_ValueError e₂ (looks_opaque X₂ T.tp) (l₀ := .ref C :: bm) (fun A Q E s k q => wpAny_bind ((looks_clsIn X₂ hcl) A _ E s k (wpAny_pure q))) rfl X₂ hsu hI₂ hxC (by decide) ?_
  have hu₃ : (h₂.push (kxs_mw "ValueError.__init__" x)).get? h₂.objs.size = some (kxs_mw "ValueError.__init__" x) := Heap.get?_push_at rfl rfl
  have k₃ : ∀ b o, h₁.get? b = some o → (h₂.push (kxs_mw "ValueError.__init__" x)).get? b = some o := fun b o z => Heap.get?_push_of_some _ (k₂ b o z)
  refine kxs_callWith (i := "ValueError.__init__") (x := x) rfl (evalArgs_plain (spliced_cons (ne_local (hns.keeps k₃) (v := v) (by first | rfl | with_unfolding_all rfl | kernel_rfl) (spliced_nil ⟨hu₃, ?_⟩) rfl (by first | rfl | with_unfolding_all rfl | kernel_rfl) (by decide))))
  refine ne_bound (X₁.keeps k₃ _ _ hC) (k₃ _ _ hx₁) hu₃ (by rw [sizeLine_eq]; exact (by decide : 1 ≤ 16777216)) fun h₄ t1 k₄ hx₄ => ?_
  -- self.at = at
  have hk₄ : ∀ b o, b ≠ x → h₁.get? b = some o → h₄.get? b = some o := fun b o n z => k₄ b o n (k₃ b o z)
  have nLx : hp0.objs.size ≠ x := Nat.ne_of_gt hxL
  have hns₄ : h₄.Ns hp0.objs.size (fun y => ([("self", Value.ref x), ("at", v)] : List (Str × Value)).reverse.lookup y) := by
    obtain ⟨oL, es, ep, z, r⟩ := hns
    exact ⟨oL, es, ep, hk₄ _ _ nLx z, r⟩
  have X₄ : K.In h₄ := fun a o z => hk₄ a o (fun e => by rw [e] at z; exact absurd (hnx.symm.trans z) (fun y => nomatch y)) (X₁ _ _ z)
  refine ks_wpAt_execs_cons (ks_wpAt_Assign_Attr (wpAt_of_wpAny ?_) ?_)
  rotate_left
  · first | rfl | with_unfolding_all rfl
  refine ne_local hns₄ (v := v) (by first | rfl | with_unfolding_all rfl | kernel_rfl) ?_ rfl (by first | rfl | with_unfolding_all rfl | kernel_rfl) (by decide)
  refine ne_local hns₄ (v := .ref x) (by first | rfl | with_unfolding_all rfl | kernel_rfl) ?_ rfl (by first | rfl | with_unfolding_all rfl | kernel_rfl) (by decide)
  refine set_plain X₄ (ox := HandSPX.excO C t1) (od := none) ⟨hx₄, rfl, rfl, trivial⟩ TC.sa ?_
  refine HandSPX.exc_osa X₄ hx₄ hcl (show HandSPX.refsVE (.ref C :: bm) = true from hbm) rfl TC.noN (fun h₅ tk₅ dx k₅ dn dne hx₅ hn₅ => ?_)
  refine wpAt_of_wpAny (wpAny_execs_nil ?_)
  refine hq h₅ tk₅ dx t1 ⟨fun b o n z => k₅ b o n (hk₄ b o n (k b o z)), hx₅, ?_, dne, hn₅⟩
  have z : hp0.objs.size < h₄.objs.size := hns₄.lt
  exact Nat.le_of_lt (Nat.lt_of_lt_of_le z dn)
end
end DP
set_option Elab.async false
set_option linter.all false
set_option maxRecDepth 100000
/-! DP, part 26: own errors raised, and caught by several clauses `except C as e: return ..`. -/
namespace DP
open PySem PySem.Spec PyProof.Rows L2

/-- a made own error -/
structure NeMade (h h' : Heap) (e C d : Addr) (v : Value) : Prop where
  keep : ∀ b o, h.get? b = some o → h'.get? b = some o
  new : h.objs.size ≤ e
  obj : ∃ oe vs, h'.get? e = some oe ∧ oe.cls = .ref C ∧ oe.dict = some d ∧ oe.data = .fields vs ∧ vs[1]? = some .none
  dbig : h.objs.size ≤ d
  dne : d ≠ e
  ns : h'.Ns1 d (fun y => if y = "at" then some v else none)
section
variable {prog : Program} {w : World} {A : Around} {R : Result → Shared → Prop} {s : Shared} {K : PySem.W.Frag} {mg mb : Str → Option Value} {B f C : Addr}
theorem net_made (T : NetB prog K mg B f) (TC : NetC K B f C) {v : Value} (X : K.In s.heap) (G : s.heap.Ns mainGlobals mg) (Gb : s.heap.Ns builtinsNs mb) (hb : mb "super" = some (.type "super")) (hlim : s.heap.NoLimit)
    (hroom : A.depth + 1 < recursionLimit) (hq : ∀ h' tk e d, NeMade s.heap h' e C d v → R (.ok (.ret (.ref e))) { s with heap := h', toks := tk }) : codeAny (model prog w) A (.call (.ref C) ⟨[v], []⟩) R s := by
  obtain ⟨nm, q, N, bs, bm, sn, sub, ab, col, dd, k0, k1, k2, k3, k5, hC, hbm⟩ := TC.cls
  obtain ⟨hp, g, dr, tk, os⟩ := s
  have k : ∀ b o, hp.get? b = some o → ((hp.push (PySem.W.kdv_tup [v])).push (HandSPX.excO C hp.objs.size)).get? b = some o := fun _ _ e => Heap.get?_push_of_some _ (Heap.get?_push_of_some _ e)
  have hge : ((hp.push (PySem.W.kdv_tup [v])).push (HandSPX.excO C hp.objs.size)).get? (hp.objs.size + 1) = some (HandSPX.excO C hp.objs.size) := by heap_get
  have hnx : K.lookup (hp.objs.size + 1) = none := by
    cases e : K.lookup (hp.objs.size + 1) with
    | none => rfl
    | some o =>
      exact absurd (Heap.lt_size (show hp.get? (hp.objs.size + 1) = some o from X _ _ e)) (Nat.not_lt_of_le (Nat.le_succ _))
  have one : ([v] : List Value).length ≤ sizeLine := by rw [sizeLine_eq]; exact (by decide : 1 ≤ 16777216)
  refine HandSPX.call_own F.excBase_ValueError (fun Y => HandSPX.refsVE_contains Y bm hbm) (X _ _ hC) (PySem.W.looks_findIn X TC.iC) (fun self => PySem.W.bind_fn X self T.tI) one ?_
  refine net_init (s := ⟨(hp.push (PySem.W.kdv_tup [v])).push (HandSPX.excO C hp.objs.size), g, dr, tk, os⟩) T TC (X.keeps k) (G.keeps k) (Gb.keeps k) hb (hlim.keeps k) hge hnx ?_ fun h' tk' dx t1 E => ?_
  · show A.depth + 1 < recursionLimit; exact hroom
  · have sz : ((hp.push (PySem.W.kdv_tup [v])).push (HandSPX.excO C hp.objs.size)).objs.size = hp.objs.size + 2 := by simp [Heap.size_push]
    have z := E.dbig
    rw [sz] at z
    exact ⟨rfl, hq h' tk' (hp.objs.size + 1) dx ⟨fun b o y => E.keep b o (Nat.ne_of_lt (Nat.lt_succ_of_lt (Heap.lt_size y))) (k b o y), Nat.le_succ _, ⟨_, _, E.obj, rfl, rfl, rfl, rfl⟩, Nat.le_trans (Nat.le_add_right hp.objs.size 2) z, E.dne, E.ns⟩⟩
end
theorem boot_super : bootBuiltins "super" = some (.type "super") := by first | rfl | kernel_rfl | boot_by_name
theorem rel_at {v : V} {u : Value} (r : RelV v u) (y : Str) : RelO (List.lookup y [(("at" : Str), v)]) (if y = "at" then some u else none) := by
  by_cases hw : y = "at"
  · subst hw; simp only [if_true, List.lookup, beq_self_eq_true]; exact r
  · have qw : (y == ("at" : Str)) = false := by simpa using hw
    simp only [if_neg hw, List.lookup, qw]; trivial
def tMkNet (C : Addr) (ta : TA) : L2.St → Hp → XK → Prop := fun σ H Q => ta σ H fun vs H1 => ∃ v, vs = [v] ∧ ∀ d, H1 d = none → Q (.ref C) (some d) (upd H1 d (.xd [(("at" : Str), v)]))
section
variable {X : Cx} {B f C : Addr}
theorem pmk_net {x : Str} {a : Expr} {ta : TA} {p pos : Pos} {k : Nat} (T : NetB X.prog X.K X.mg B f) (TC : NetC X.K B f C) (gC : X.mg x = some (.ref C)) (hr : Room k X.A) (ha : PA X [a] ta) (hg : Gl X x) (hdb : (x == ("__debug__" : Str)) = false := by decide)
    (he : starEach (a :: []) X.env = (false, eval a X.env) :: starEach [] X.env := by rfl) (hpl : (backTo pos (starEach [] X.env)).any (·.1) = false := by rfl) : PMk X (.Call (.Name x p) [a] [] pos) (tMkNet C ta) := by
  intro pins s σ H Q I h
  refine wpAny_Call_Name_kw (ld_glob I hg gC ?_ hdb)
  refine PySem.W.callWith_K (h₀ := X.base) I.ok.mod.kin TC.kC (thn (ha.run pos pins s σ H _ I h) fun us s1 ⟨vs, H1, I1, r1, v, ev, q1⟩ => ⟨I1.kIn, ?_⟩) he hpl
  subst ev
  cases r1 with
  | @cons _ v' _ us' rv rn =>
    cases rn
    have hlim := I1.nolimit
    obtain ⟨mb, hb1, hb2⟩ := I1.mod.blt
    have G1 := I1.mod.glob.keeps I1.bk
    have Gb1 := hb1.keeps I1.bk
    have hb := (hb2 "super" (by decide)).trans boot_super
    obtain ⟨hp, g, dr, tk, os⟩ := s1
    refine wpAny_call (net_made T TC I1.kIn G1 Gb1 hb hlim (by have := hr.dp; omega) fun h' tk' e d M => (show MkP X pins σ Q (.ref e) ⟨h', g, dr, tk', os⟩ from ?_))
    obtain ⟨oe, fv, hoe, hc, hd, hdat, h1⟩ := M.obj
    obtain ⟨G', g1, g2⟩ := restrict h' fun b => decide (b ≠ e)
    have gk : ∀ b, b ≠ e → G'.get? b = h'.get? b := fun b hb => g1 b (decide_eq_true hb)
    have ge : G'.get? e = none := g2 e (by simp)
    have old : ∀ b o, hp.get? b = some o → G'.get? b = some o := fun b o q => (gk b (Nat.ne_of_lt (Nat.lt_of_lt_of_le (Heap.lt_size q) M.new))).trans (M.keep b o q)
    have ob : ObjOk X.prog X.w (upd H1 d (.xd [(("at" : Str), v)])) G' d (.xd [(("at" : Str), v)]) := ⟨_, M.ns.at (fun o q => (gk d M.dne).trans q), rel_at rv⟩
    have J : Inv X pins σ (upd H1 d (.xd [(("at" : Str), v)])) ⟨G', g, dr, tk', os⟩ := I1.laid (t' := tk') old M.dbig ob
    refine ⟨e, oe, fv, ⟨G', g, dr, tk', os⟩, _, .ref C, some d, rfl, J, fun b o q => ?_, ge, hoe, ⟨hc, hd⟩, hdat, h1, ?_, rfl, I1.bare, raises_own TC.exC TC.tyC, q1 d (I1.hok.fresh M.dbig)⟩
    · by_cases hb : b = e
      · rw [hb] at q; exact absurd (ge.symm.trans q) (fun z => nomatch z)
      · exact (gk b hb).symm.trans q
    · rw [upd_ne (Ne.symm M.dne)]; exact I1.hok.fresh M.new
/-- raise C(a) -/
def sRaise (x : Str) (f : XF) : SF := fun env => (f env).bind fun r => .exc x r.1 r.2
theorem es_raise {Wx : WX} {x : Str} {a : Expr} {g : XF} {p pos pos2 : Pos} {k : Nat} (T : NetB X.prog X.K X.mg B f) (TC : NetC X.K B f C) (gC : X.mg x = some (.ref C)) (hc : X.calm = true) (hr : Room k X.A) (tk : Takes X Wx) (ha : EX X Wx a g) (hg : Gl X x)
    (hdb : (x == ("__debug__" : Str)) = false := by decide) (he : starEach (a :: []) X.env = (false, eval a X.env) :: starEach [] X.env := by rfl) (hpl : (backTo pos (starEach [] X.env)).any (·.1) = false := by rfl) :
    ES X Wx (.Raise (some (.Call (.Name x p) [a] [] pos)) none pos2) (sRaise x g) := by
  have m := pmk_net (p := p) (pos := pos) T TC gC hr (ea_cons ha ea_nil he) hg hdb he hpl
  refine PS.wk (ps_raise (pos := pos2) hc tk m) ?_
  rintro D σ H ⟨ρ, W, env, A, S, h⟩
  unfold sRaise at h
  refine ⟨ρ, W, env, A, S, ?_⟩
  unfold aCons aNil
  cases e : g env with
  | bad => rw [e] at h; exact h.elim
  | exc c d e' =>
    rw [e] at h
    exact fun C W' H' A' dx v q S' F' x r' => h C W' H' A' _ dx v q S' F' x r'
  | ok r =>
    obtain ⟨d, e1⟩ := r
    rw [e] at h
    simp only [Out.bind_ok] at h ⊢
    intro W1 H1 A1 vs S1 F1 r1
    simp only [RepL] at r1
    obtain ⟨v, _, rfl, r1, rfl⟩ := r1
    refine ⟨v, rfl, fun dx n => ?_⟩
    have E := Ex.junk (o := .xd [(("at" : Str), v)]) S1.sub n
    exact h C W1 _ A1 σ dx v gC (S1.ex E) (F1.trans (E.fr _)) upd_same (Rep.mono E.ext d v r1)
end
end DP
set_option Elab.async false
set_option linter.all false
set_option maxRecDepth 100000
/-! DP, part 27: several clauses `except C as e: suite`. -/
namespace DP
open PySem PySem.Spec PyProof.Rows L2

abbrev TSu := Addr → Value → Option Addr → TS
/-- what is wanted behind a suite: its name is gone -/
def offName (i : Nat) (D : Ends) : Ends := { nx := fun σ' H' => D.nx (σ'.set i none) H', rt := D.rt, bk := fun σ' H' => D.bk (σ'.set i none) H', ct := fun σ' H' => D.ct (σ'.set i none) H' }
/-- what the clauses want of an exception of the body -/
def wAll (K : PySem.W.Frag) (Wout : WX) (D : Ends) : List (Value × Nat × TSu) → WX
  | [] => Wout
  | (c, i, ts) :: r => fun cls d σ H => ∃ b, PySem.W.exmOne K cls c = some b ∧ (b = true → ∀ a, H a = none → ts a cls d (offName i D) (σ.set i (some (.ref a))) H) ∧ (b = false → wAll K Wout D r cls d σ H)
inductive HdA (X : Cx) : List ExceptHandler → List (Value × Nat × TSu) → Prop
  | nil : HdA X [] []
  | cons {x n : Str} {i : Nat} {c : Value} {ts : TSu} {b₀ : Stmt} {su : List Stmt} {np pos' : Pos} {hds : List ExceptHandler} {l : List (Value × Nat × TSu)} (hi : X.N[i]? = some n) (hl : X.env.kindOf n = some .local) (hc : Names X x c)
      (hsu : ∀ (a : Addr) (oe : Obj) (cls : Value) (d : Option Addr) (pn : List (Addr × Obj)), Zc cls d oe → (∃ vs, oe.data = .fields vs) → PSs (X.suite a ((a, oe) :: pn)) (b₀ :: su) (ts a cls d)) (r : HdA X hds l) :
      HdA X (.ExceptHandler (some (.Name x np)) (some n) (b₀ :: su) pos' :: hds) ((c, i, ts) :: l)
section
variable {X : Cx} {body : List Stmt} {h₀ : ExceptHandler} {hds : List ExceptHandler} {l : List (Value × Nat × TSu)} {pos : Pos} {tb : WX → TS} {Wout : WX}
theorem ps_try_all (hs : X.stack = X.env :: X.outer) (hf : X.env.frame = some X.env.locals) (hN : X.N.Nodup) (tk : Takes X Wout)
    (hb : ∀ (W : WX) (pn : List (Addr × Obj)) (xe : Value → Shared → Prop), Takes (X.tr pn xe) W → PassesOwn (model X.prog X.w) X.A X.env xe → PSs (X.tr pn xe) body (tb W))
    (hh : HdA X (h₀ :: hds) l) : PS X (.Try body (h₀ :: hds) [] [] pos) (fun D σ H => tb (wAll X.K Wout D l) D σ H) := by
  refine ⟨fun pins s σ H D I h => ?_⟩
  have ok := I.ok
  have hfr : X.A.frames = some (X.env :: X.outer) := by rw [ok.frames, hs]
  refine wpAny_Try_except (wpAny_mono ((hb (wAll X.K Wout D l) (X.pn ++ pins) (fun e z₁ => wpAny (model X.prog X.w) X.A (noteFrame e X.env) (fun _ z₂ => wpAny (model X.prog X.w) X.A (setFlight e none)
    (fun _ z₃ => wpAny (model X.prog X.w) X.A (handleBy e X.env (h₀ :: hds)) (SP X pins D) X.xe z₃) X.xe z₂) X.xe z₁) (fun u s' air => ?_) PassesOwn.looking).run [] s σ H D (I.toTry _) h) (fun fl s1 fin => ?_) fun _ _ z => z)
  · -- caught
    obtain ⟨a, Bh, sI, pins', σ', H', cls, d, rfl, J', nb, up, sky, na, os, ag, want⟩ := air
    have J := J'.ofTry ok
    have sky' : Sky Bh (X.env :: X.outer) a (Zc cls d) X.env.locals s'.heap := hs ▸ sky
    refine (Sky.land Zc.steady hfr hf sky' fun g3 f3 u3 => ?_ : wpAny (model X.prog X.w) X.A (noteFrame (.ref a) X.env) _ _ _)
    have J3 : Inv X pins σ' H' { s' with heap := g3 } := J.landed nb f3.1 (up.trans u3) os ag
    obtain ⟨o3, v3, he3, hz3, hd3⟩ := f3.there
    have away : a ∉ frs (X.env :: X.outer) := fun hm => by
      obtain ⟨_, o', e', nf⟩ := f3.2.2.1.mem hm
      rw [he3] at e'; cases e'
      exact nf _ hd3
    have nL : a ≠ X.env.locals := fun z => away (List.mem_filterMap.mpr ⟨X.env, List.mem_cons_self, by rw [hf, z]⟩)
    have nF : a ∉ X.fs := fun hm => by
      obtain ⟨y, hy, q⟩ := List.mem_filterMap.mp hm
      exact away (List.mem_filterMap.mpr ⟨y, List.mem_cons_of_mem _ hy, q⟩)
    have S3 := J3.suite he3 hd3 na nL nF
    have go : ∀ {hs' : List ExceptHandler} {l' : List (Value × Nat × TSu)}, HdA X hs' l' → wAll X.K Wout D l' cls d σ' H' → wpAny (model X.prog X.w) X.A (handleBy (.ref a) X.env hs') (SP X pins D) X.xe { s' with heap := g3 } := by
      intro hs' l' hk
      induction hk with
      | nil =>
        intro want
        obtain ⟨_, _, _, oe, vs, T, oT, ts', he, hz, hd, h1, _⟩ := id f3
        have last : wpAny (model X.prog X.w) X.A (setFlight (.ref a) X.env.frame) (fun _ s4 => wpAny (model X.prog X.w) X.A (throw (.ref a) : Sem Flow) (SP X pins D) X.xe s4) X.xe { s' with heap := g3 } := by
          rw [hf]
          exact HandSPX.setFlight_upZ f3 fun g4 hh4 u4 => wpAny_throw (tk _ _ ⟨a, Bh, sI, pins, σ', H', cls, d, rfl, J, nb, (up.trans u3).trans u4, .inr (.inr (by rw [hs]; exact hh4)), na, os, ag, want⟩)
        refine wpAny_handleBy_nil ?_
        unfold PySem.passOn
        refine wpAny_bind (wpAny_field he hd h1 ?_)
        rw [if_neg (by simp : ¬ ((Value.ref T == Value.none) = true))]
        first
          | exact wpAny_bind (wpAny_pure (wpAny_bind last))
          | exact wpAny_bind last
      | @cons x n i c ts b₀ su np pos' hds2 l2 hi hl hc hsu r ih =>
        intro want
        obtain ⟨b, hb1, yes, no⟩ := want
        have LT : PySem.W.Looks (model X.prog X.w) g3 (typeOf (.ref a)) cls := fun _ _ _ _ k q => wpAny_typeOf_ref (k _ _ he3) (by rw [hz3.1]; exact q)
        have LM := PySem.W.exm_one (M := model X.prog X.w) J3.kIn LT hb1
        have name : ∀ {Q : Value → Shared → Prop} {E : Value → Shared → Prop}, Q c { s' with heap := g3 } → wpAny (model X.prog X.w) (X.A.mark (some (.ref a))) (eval (.Name x np) X.env) Q E { s' with heap := g3 } := fun q => by
          obtain ⟨hg, hdbg, hm | ⟨hm, hv, hnn⟩⟩ := hc
          · exact ld_glob (X := X.suite a ((a, o3) :: (X.pn ++ pins))) S3 hg hm q hdbg
          · exact ld_blt (X := X.suite a ((a, o3) :: (X.pn ++ pins))) S3 hg hm hv q hnn hdbg
        refine wpAny_handleBy_cons (codeAny_handlers_test (name (LM.here ?_))) (fun q => by cases q)
        cases b with
        | false => exact (ih (no rfl) : wpAny _ X.A (handleBy (.ref a) X.env hds2) _ _ _)
        | true =>
          refine codeAny_handlers_suite_as (HandSPX.lands_againZ f3 fun g4 f4 u4 => ?_)
          have J4 : Inv X pins σ' H' { s' with heap := g4 } := J.landed nb f4.1 ((up.trans u3).trans u4) os ag
          obtain ⟨o4, v4, he4, hz4, hd4⟩ := f4.there
          refine store_ok (X := X.suite a ((a, o4) :: (X.pn ++ pins))) (v := .ref a) (J4.suite he4 hd4 na nL nF) hN hi (.inl hl) rfl (fun s5 S5 => ?_) (.inr hl)
          have off : ∀ {σ6 : L2.St} {H6 : Hp} {s6 : Shared} {Q : Shared → Prop}, Inv (X.suite a ((a, o4) :: (X.pn ++ pins))) [] σ6 H6 s6 → (∀ s7, Inv X pins (σ6.set i none) H6 s7 → Q s7) →
              wpAny (model X.prog X.w) X.A (do bindName X.env n .none; unbindBehindTheSuite X.env n pos') (fun _ s7 => Q s7) X.xe s6 := fun S6 hq => gone_ok (S6.unsuite ok) hN hi hl hq
          refine wpAny_mono ((hsu a o4 cls d (X.pn ++ pins) hz4 ⟨_, hd4⟩).run [] s5 _ H' _ S5 (yes rfl a na)) (fun fl s6 fin => ?_) (fun _ _ z => False.elim z)
          cases fl with
          | ret u =>
            obtain ⟨v6, σ6, H6, S6, r6, q6⟩ := fin
            exact off S6 fun s7 J7 => ⟨_, _, _, J7, r6, q6⟩
          | next =>
            obtain ⟨σ6, H6, S6, q6⟩ := fin
            exact off S6 fun s7 J7 => ⟨_, _, J7, q6⟩
          | brk =>
            obtain ⟨σ6, H6, S6, q6⟩ := fin
            exact off S6 fun s7 J7 => ⟨_, _, J7, q6⟩
          | cont =>
            obtain ⟨σ6, H6, S6, q6⟩ := fin
            exact off S6 fun s7 J7 => ⟨_, _, J7, q6⟩
    exact go hh want
  · cases fl with
    | ret u => exact let ⟨v, σ', H', J', r, q⟩ := fin; ⟨v, σ', H', J'.ofTry ok, r, q⟩
    | next => exact let ⟨σ', H', J', q⟩ := fin; wpAny_execs_nil ⟨σ', H', J'.ofTry ok, q⟩
    | brk => exact let ⟨σ', H', J', q⟩ := fin; ⟨σ', H', J'.ofTry ok, q⟩
    | cont => exact let ⟨σ', H', J', q⟩ := fin; ⟨σ', H', J'.ofTry ok, q⟩
end
end DP
set_option Elab.async false
set_option linter.all false
set_option maxRecDepth 100000
/-! DP, part 28: try .. except C as e: return e.at, or return (word, e.at). -/
namespace DP
open PySem PySem.Spec PyProof.Rows L2

/-- a clause: the name's slot, the classes that it takes, those that it lets by, what it returns -/
structure Hd where
  i : Nat
  ys : List Str
  ns : List Str
  k : D → D
def catchs : List Hd → Str → D → Ev → Out (Fl × Ev)
  | [], c, d, e => .exc c d e
  | h :: r, c, d, e => if h.i < e.length then (if h.ys.contains c then .ok (.rt (h.k d), e) else if h.ns.contains c then catchs r c d e else .bad) else .bad
def sTry (b : SF) (hs : List Hd) : SF := fun env => match b env with
  | .exc c d e => catchs hs c d e
  | .ok r => .ok r
  | .bad => .bad
/-- what a suite has at hand -/
def wSu (K : PySem.W.Frag) (w : World) (k : D → D) (i : Nat) : TSu := fun a cls d Dn σ H => ∃ B f C dd v W dat, cls = .ref C ∧ NetC K B f C ∧ d = some dd ∧ H dd = some (.xd [(("at" : Str), v)]) ∧ σ[i]? = some (some (.ref a)) ∧ Same W H ∧ Rep K w W dat v ∧
  ∀ W' H' u, Ex W H W' H' → Rep K w W' (k dat) u → Dn.rt u H'
def Su (X : Cx) (i : Nat) (st : List Stmt) (k : D → D) : Prop := ∀ (a : Addr) (oe : Obj) (cls : Value) (d : Option Addr) (pn : List (Addr × Obj)), Zc cls d oe → (∃ vs, oe.data = .fields vs) → PSs (X.suite a ((a, oe) :: pn)) st (wSu X.K X.w k i a cls d)
section
variable {X : Cx} {a : Addr} {oe : Obj} {cls : Value} {d : Option Addr} {pn : List (Addr × Obj)} {e : Expr} {te : TE} {pos : Pos}
/-- e.at -/
theorem pe_eAt (hz : Zc cls d oe) (hf : ∃ vs, oe.data = .fields vs) (he : PE (X.suite a ((a, oe) :: pn)) e te) (hb : attributeBase e "at" X.env (eval e X.env) = eval e X.env := by rfl) :
    PE (X.suite a ((a, oe) :: pn)) (.Attribute e "at" pos) (fun σ H Q => te σ H fun x H1 => x = .ref a ∧ ∃ B f C dd v, cls = .ref C ∧ NetC X.K B f C ∧ d = some dd ∧ H1 dd = some (.xd [(("at" : Str), v)]) ∧ Q v H1) := by
  refine ⟨fun pins s σ H Q I h => attr_of hb (thn (he.run pins s σ H _ I h) fun u s1 ⟨x, H1, I1, rx, ex, B, f, C, dd, v, ec, T, ed, ea, q⟩ => ?_)⟩
  subst ex ec ed
  obtain rfl : u = Value.ref a := rx
  obtain ⟨ha, _⟩ := I1.pin (a, oe) (List.mem_append_left _ List.mem_cons_self)
  obtain ⟨vs, hd⟩ := hf
  obtain ⟨mA, hns, hr⟩ := (I1.hok dd _ ea : ObjOk X.prog X.w H1 s1.heap dd (.xd [(("at" : Str), v)]))
  obtain ⟨od, ho, hl⟩ := lookIn_ns hns
  have l : List.lookup ("at" : Str) [(("at" : Str), v)] = some v := by simp [List.lookup]
  obtain ⟨u, hu, ru⟩ := RelO.some_of (v := v) (o := mA "at") (by rw [← l]; exact hr "at")
  refine HandSPX.exc_get I1.kIn (od := some od) ⟨ha, hz.1, by unfold PySem.W.notCls; rw [hd] <;> rfl, by rw [hz.2]; exact ho⟩ T.ga T.gg T.exC (PySem.W.findObj_own T.hdC T.noN rfl (by rw [hl, hu])) (handed_of ru) ⟨v, H1, I1.tok _, ru, q⟩
end
section
variable {X : Cx} {i : Nat} {n : Str} {p1 p2 p3 p4 p5 : Pos} {k0 j0 : Nat} {y : Str}
theorem su_at (hv : PE X (.Name n p1) (tVar i)) (pv : ∀ a oe pn, PE (X.suite a ((a, oe) :: pn)) (.Name n p1) (tVar i)) : Su X i [.Return (some (.Attribute (.Name n p1) "at" p2)) p3] (fun d => d) := by
  intro a oe cls d pn hz hf
  refine PSs.wk (pss_one (ps_ret (pe_eAt hz hf (pv a oe pn) rfl))) ?_
  rintro Dn σ H ⟨B, f, C, dd, v, W, dat, e1, e2, e3, e4, e5, e6, e7, e8⟩
  exact ⟨_, e5, rfl, B, f, C, dd, v, e1, e2, e3, e4, e8 W H v (Ex.refl e6) e7⟩
theorem su_pair (pv : ∀ a oe pn, PE (X.suite a ((a, oe) :: pn)) (.Name n p1) (tVar i)) :
    Su X i [.Return (some (.Tuple [.Constant (.str y) j0 p4, .Attribute (.Name n p1) "at" p2] k0 p5)) p3] (fun d => .tuple [.str y, d]) := by
  intro a oe cls d pn hz hf
  refine PSs.wk (pss_one (ps_ret (pe_tup (pa_cons pe_str (pa_cons (pe_eAt hz hf (pv a oe pn) rfl) pa_nil rfl) rfl)))) ?_
  rintro Dn σ H ⟨B, f, C, dd, v, W, dat, e1, e2, e3, e4, e5, e6, e7, e8⟩
  refine ⟨_, e5, rfl, B, f, C, dd, v, e1, e2, e3, e4, ?_, fun p n => ?_⟩
  · rw [sizeLine_eq]; exact (by decide : 2 ≤ 16777216)
  · have E := Ex.one (o := .tup [.str y, v]) e6 n
    refine e8 _ _ _ E ?_
    simp only [Rep]
    exact ⟨p, _, rfl, .of upd_same, RepL.cons (by simp only [Rep]) (RepL.cons (Rep.mono E.ext dat v e7) RepL.nil)⟩
end
inductive HdD (X : Cx) : List ExceptHandler → List Hd → List (Value × Nat × TSu) → Prop
  | nil : HdD X [] [] []
  | cons {x n : Str} {i : Nat} {c : Value} {ys ns : List Str} {k : D → D} {b₀ : Stmt} {su : List Stmt} {np pos' : Pos} {hds : List ExceptHandler} {hs : List Hd} {l : List (Value × Nat × TSu)} (hi : X.N[i]? = some n) (hl : X.env.kindOf n = some .local) (hc : Names X x c)
      (hys : ∀ y ∈ ys, ∃ B f C, X.mg y = some (.ref C) ∧ NetC X.K B f C ∧ PySem.W.exmOne X.K (.ref C) c = some true) (hns : ∀ y ∈ ns, ∃ C, X.mg y = some (.ref C) ∧ PySem.W.exmOne X.K (.ref C) c = some false)
      (hsu : Su X i (b₀ :: su) k) (r : HdD X hds hs l) : HdD X (.ExceptHandler (some (.Name x np)) (some n) (b₀ :: su) pos' :: hds) (⟨i, ys, ns, k⟩ :: hs) ((c, i, wSu X.K X.w k i) :: l)
section
variable {X : Cx} {Wx : WX} {body : List Stmt} {h₀ : ExceptHandler} {hds : List ExceptHandler} {hs : List Hd} {l : List (Value × Nat × TSu)} {pos : Pos} {b : SF}
theorem HdD.hdA (h : HdD X hds hs l) : HdA X hds l := by
  induction h with
  | nil => exact .nil
  | cons hi hl hc _ _ hsu _ ih => exact .cons hi hl hc (fun a oe cls d pn => hsu a oe cls d pn) ih
theorem HdD.want {ρ : Nat → Addr} {W H W' H' : Hp} {A A' : List (List Addr)} {c : Str} {d : D} {e : Ev} {Dn : Ends} {C dx : Addr} {σ' : L2.St} {v : V} (gC : X.mg c = some (.ref C)) (S : SR X.K X.w ρ W' H' e σ' A') (F : Fr W H (ownd A) W' H' (ownd A'))
    (hx : H' dx = some (.xd [(("at" : Str), v)])) (r : Rep X.K X.w W' d v) (h : HdD X hds hs l) : onS X Wx ρ W H A (catchs hs c d e) Dn → wAll X.K Wx Dn l (.ref C) (some dx) σ' H' := by
  induction h with
  | nil => exact fun q => q C W' H' A' σ' dx v gC S F hx r
  | @cons x n i c' ys ns k b₀ su np pos' hds hs l hi hl hc hys hns hsu _ ih =>
    intro q
    unfold catchs at q
    split at q
    · rename_i lt
      split at q
      · rename_i y
        obtain ⟨B, f, C', g1, T, x1⟩ := hys c (by simpa using y)
        rw [gC] at g1; cases g1
        refine ⟨true, x1, fun _ a n => ?_, fun z => nomatch z⟩
        refine ⟨B, f, C, dx, v, W', d, rfl, T, rfl, hx, List.getElem?_set_self (by rw [← S.le]; exact lt), S.sub, r, fun W2 H2 u E ru => ?_⟩
        exact q W2 H2 A' σ' (S.ex E) (F.trans (E.fr _)) u ru
      · split at q
        · rename_i y
          obtain ⟨C', g1, x1⟩ := hns c (by simpa using y)
          rw [gC] at g1; cases g1
          exact ⟨false, x1, (fun z => nomatch z), fun _ => ih q⟩
        · exact q.elim
    · exact q.elim
theorem es_try (hs1 : X.stack = X.env :: X.outer) (hf : X.env.frame = some X.env.locals) (hN : X.N.Nodup) (tk : Takes X Wx)
    (hb : ∀ (W : WX) (pn : List (Addr × Obj)) (xe : Value → Shared → Prop), Takes (X.tr pn xe) W → PassesOwn (model X.prog X.w) X.A X.env xe → EB (X.tr pn xe) W body b)
    (hh : HdD X (h₀ :: hds) hs l) : ES X Wx (.Try body (h₀ :: hds) [] [] pos) (sTry b hs) := by
  refine PS.wk (ps_try_all (tb := fun W => tS X W b) hs1 hf hN tk hb hh.hdA) ?_
  rintro Dn σ H ⟨ρ, W, env, A, S, h⟩
  refine ⟨ρ, W, env, A, S, ?_⟩
  unfold sTry at h
  cases e : b env with
  | bad => rw [e] at h; exact h.elim
  | ok r => rw [e] at h; exact h
  | exc c d e' =>
    rw [e] at h
    exact fun C W' H' A' σ' dx v g S' F' x r' => hh.want g S' F' x r' h
end
end DP
set_option Elab.async false
set_option linter.all false
set_option maxRecDepth 100000
/-! DP, part 29: set(xs) of a list of ints; sorted(set(xs)) of it. -/
namespace DP
open PySem PySem.Spec PyProof.Rows L2
/-- an empty set, just made -/
abbrev set0 (w : World) : Obj := { cls := .type "set", dict := none, data := .set #[] 0 (.fresh 0 0 (!w.params.followText "set-order")) }
section
variable {P : Program} {w : World} {A : Around} {E : Value → Shared → Prop} {s : Shared}
set_option maxHeartbeats 3200000 in
theorem set_lstI {l : Addr} {its : Array Value} (ns : List Int) {Q : Value → Shared → Prop} (calm : A.handled = none) (hl : s.heap.IsList l its) (hi : IntsAre its.toList ns) (hb : ns.length + 1 < scanBound)
    (h : ∀ (h' : Heap) (tk c : Nat), SetR w h' s.heap.objs.size (fun j => decide (j ∈ ns)) c → c ≤ ns.length → (∀ b o, s.heap.get? b = some o → h'.get? b = some o) → Q (.ref s.heap.objs.size) { s with heap := h', toks := tk }) :
    wpAny (model P w) A (call (.type "set") [.ref l]) Q E s := by
  have len : its.size = ns.length := by rw [← Array.length_toList]; exact IntsAre.length hi
  obtain ⟨c, tl, hmro⟩ := F.called_set.mro
  have hmade := F.called_set.made; have hsub := F.called_set.sub; have h1 := F.called_set.notType; have h2 := F.called_set.canCreate; have hct := F.typeCall_set_1 (.ref l)
  refine wpAny_call (codeAny_of_tree (show wpAny _ _ (callAny (.type "set") _) _ _ _ from wpAny_pure ⟨Code.quiet_builtin _ (by decide +kernel), codeAny_builtin F.entry_type_call ?_⟩))
  rw [Around.under_plain (weight_type_call_type "set" [.ref l] []) rfl]
  repeat (any_goals (first | assumption | wp_step))
  refine codeAny_mono (code_set_led1 (.ref l) (E := E) (Q₁ := fun ob z => ob = .ref s.heap.objs.size ∧ z = { s with heap := s.heap.push (set0 w) }) ⟨rfl, rfl⟩) fun r z hr => ?_
  cases r with
  | error e => exact hr
  | ok fl =>
    cases fl with
    | ret ob =>
      obtain ⟨rfl, rfl⟩ := hr
      have g0 : (s.heap.push (set0 w)).get? s.heap.objs.size = some (set0 w) := Heap.get?_push_size _ rfl
      have ty : Shared.TypeIs { s with heap := s.heap.push (set0 w) } (.ref s.heap.objs.size) "set" := ⟨_, g0, rfl⟩
      have hli := F.called_set.init.lookup; have hbi := F.called_set.init.bind (.ref s.heap.objs.size)
      repeat (any_goals (first | assumption | wp_step))
      refine codeAny_mono (codeAny_call_builtin (R := wants (fun r z₂ => r = .none ∧ ∃ h' tk c, z₂ = { s with heap := h', toks := tk } ∧ SetR w h' s.heap.objs.size (fun j => decide (j ∈ ns)) c ∧ c ≤ ns.length ∧ (∀ b o, s.heap.get? b = some o → h'.get? b = some o)) E)
        F.called_set.init.plain F.entry_set_init (check_set_init_1 ty ?_)) fun r₂ z₂ hr₂ => ?_
      · obtain ⟨⟨ocls, odict, odata, oslots⟩, hol, hcl, nl, hdl⟩ := hl
        simp only at hcl hdl
        subst hcl hdl
        have hol' : (s.heap.push (set0 w)).get? l = some ⟨.type "list", odict, .seq its nl, oslots⟩ := Heap.get?_push_of_some _ hol
        have hsls := F.sub_list_set; have hslf := F.sub_list_frozenset
        have hne : (Value.type "list" == Value.type "dict") = false := by decide
        have il : (s.heap.push (set0 w)).IsList l its := ⟨_, hol', rfl, nl, rfl⟩
        unfold Builtin.«set.__init__» noKeywords Builtin.Frozenset.updateFrom
        generalize hPI : pyIter = PI
        wp_walk
        subst hPI
        refine wpAny_pyIter_list il (wpAny_bind (wpAny_runValue ?_))
        have lt : l < s.heap.objs.size := Heap.lt_size hol
        have calm3 : A.in1.in1.in1.handled = none := by simp [calm]
        have away : l ≠ (s.heap.push (set0 w)).objs.size := by rw [Heap.size_push]; exact Nat.ne_of_lt (Nat.lt_succ_of_lt lt)
        have notIn : s.heap.objs.size ∉ [(s.heap.push (set0 w)).objs.size, l] := by
          rw [Heap.size_push]; intro q; rcases List.mem_cons.mp q with q | q
          · exact Nat.ne_of_lt (Nat.lt_succ_self _) q
          · exact Nat.ne_of_gt lt (List.mem_singleton.mp q)
        have val : ∀ (i : Nat) (v : Value), its[i]? = some v → ∃ k t, ns[i]? = some k ∧ v = .int k t := fun i v hv => by
          have lt' : i < ns.length := by rw [← len]; exact (Array.getElem?_eq_some_iff.mp hv).1
          obtain ⟨t, e⟩ := PyProof.Rows.IntsAre.int_at hi i v (by rw [Array.getElem?_toList]; exact hv)
          exact ⟨ns[i], t, List.getElem?_eq_getElem lt', by rw [e, List.getD_eq_getElem?_getD, List.getElem?_eq_getElem lt'] <;> rfl⟩
        refine set_update_ints ((Walks.list calm3 _ l away its).toS) s.heap.objs.size notIn ns len hb val (its.size - 0) 0 _ (by omega) (Nat.zero_le _) ⟨⟨_, Heap.get?_push_size _ rfl, rfl, rfl⟩, (il.push _)⟩ ⟨0, Nat.le_refl 0, setR_new_at (Heap.get?_push_of_some _ g0)⟩ ?_
        intro z' c' hm hc' hS'
        obtain ⟨h', g2, d', tk', os'⟩ := z'
        cases (hm.gens : g2 = s.gens); cases (hm.drawn : d' = s.drawn); cases (hm.os : os' = s.os)
        have old : ∀ b o, s.heap.get? b = some o → h'.get? b = some o := fun b o e => by
          have b0 : b < s.heap.objs.size := Heap.lt_size e
          refine hm.heap b o (fun q => ?_) (Heap.get?_push_of_some _ (Heap.get?_push_of_some _ e))
          rcases List.mem_cons.mp q with q | q
          · exact Nat.ne_of_lt b0 q
          · rw [Heap.size_push] at q
            exact Nat.ne_of_lt (Nat.lt_succ_of_lt b0) (List.mem_singleton.mp q)
        rw [len] at hc'
        show wpAny _ _ _ _ _ _
        refine wpAny_pure ?_
        show wpAny _ _ (ret Value.none) _ _ _
        exact wpAny_pure ⟨rfl, h', tk', c', rfl, hS', hc', old⟩
      · cases r₂ with
        | error e => exact hr₂
        | ok fl₂ =>
          cases fl₂ with
          | ret r =>
            obtain ⟨rfl, h', tk, c', rfl, hS', hc', hk'⟩ := hr₂
            repeat (any_goals (first | assumption | wp_step))
            exact h _ _ _ hS' hc' hk'
          | _ => exact hr₂.elim
    | _ => exact hr.elim
end
/-- set(xs) -/
def rSetLI (K : PySem.W.Frag) (w : World) : List V → Hp → VK → Prop := fun xs H Q => ∃ (l : Addr) (ns : List Int), xs = [V.ref l] ∧ SqL K H l (ns.map V.int) ∧ ns.length ≤ 1000 ∧ ∀ p c, H p = none → c ≤ ns.length → Q (.ref p) (upd H p (SetO w p (fun j => decide (j ∈ ns)) c))
theorem cr_setLI {X : Cx} (hc : X.calm = true) : CallR X (.type "set") (rSetLI X.K X.w) := by
  intro pins s σ H xs us Q I r h
  obtain ⟨l, ns, rfl, hl, hf, q⟩ := h
  rw [Vals.ref1 r]
  obtain ⟨its, rv, pl, hz⟩ := I.list hl
  refine set_lstI (P := X.prog) (w := X.w) ns (I.ok.hd hc) pl.isList (by simpa using ints_of_vals rv) (by unfold scanBound; omega) fun h' tk c R hcn k => ?_
  exact ⟨.ref s.heap.objs.size, _, I.laid (t' := tk) k (Nat.le_refl _) (setO_new R), rfl, q _ c (I.hok.fresh (Nat.le_refl _)) hcn⟩
end DP
set_option Elab.async false
set_option linter.all false
set_option maxRecDepth 100000
/-! DP, part 30: sorted(set(ints)); in, not in; is True; enumerate; starred items; a < b < c < d; constants of the module that are tuples; one of several defs, called. -/
namespace DP
open PySem PySem.Spec PyProof.Rows L2

/-! ### sorted(set(xs)) of ints -/
def leZ (a b : Int) : Bool := decide (a ≤ b)
/-- the ints of xs in order, each once -/
def setZ (xs : List Int) : List Int := xs.eraseDups.mergeSort leZ
def sortSetID : D → Option D
  | .list ds => match intsD ds with
    | some ns => if ds.length < 64 then some (.list ((setZ ns).map .int)) else none
    | none => none
  | _ => none
theorem leZ_anti (a b : Int) (h : leZ a b = true) (k : leZ b a = true) : a = b := by
  unfold leZ at *
  exact Int.le_antisymm (of_decide_eq_true h) (of_decide_eq_true k)
theorem setZ_pw (xs : List Int) : (setZ xs).Pairwise (fun a b => leZ a b = true) :=
  List.pairwise_mergeSort (fun a b c h k => by unfold leZ at *; exact decide_eq_true (Int.le_trans (of_decide_eq_true h) (of_decide_eq_true k))) (fun a b => by
    unfold leZ
    rcases Int.le_total a b with h | h
    · rw [decide_eq_true h]; rfl
    · rw [decide_eq_true h, Bool.or_true]) _
theorem mem_setZ {xs : List Int} {a : Int} : a ∈ setZ xs ↔ a ∈ xs := by
  unfold setZ
  rw [(List.mergeSort_perm _ _).mem_iff]
  exact List.mem_eraseDups
theorem setZ_nodup (xs : List Int) : (setZ xs).Nodup := (List.mergeSort_perm _ _).nodup_iff.mpr (nodup_dups _ xs (Nat.le_refl _))
theorem setZ_eq {xs ns : List Int} (h : ns.Pairwise (· < ·)) (m : ∀ k, k ∈ ns ↔ k ∈ xs) : ns = setZ xs := by
  refine sorted_one (le := leZ) leZ_anti ?_ (h.imp fun q => decide_eq_true (Int.le_of_lt q)) (setZ_pw xs)
  exact (List.perm_ext_iff_of_nodup (h.imp fun q => Int.ne_of_lt q) (setZ_nodup xs)).mpr fun k => (m k).trans mem_setZ.symm
def xSortSetI (f : XF) : XF := fun env => (f env).bind fun r => liftO (sortSetID r.1) r.2
section
variable {X : Cx} {Wx : WX}
theorem rep_ints {K : PySem.W.Frag} {w : World} {W : Hp} : ∀ ns : List Int, RepL K w W (ns.map PyData.int) (ns.map V.int)
  | [] => RepL.nil
  | i :: ns => RepL.cons (by simp only [Rep]) (rep_ints ns)
theorem en_sortSetI {e : Expr} {f : XF} {p p2 q pos : Pos} (hc : X.calm = true) (hg : Gl X "sorted") (hm : X.mg "sorted" = none) (hg2 : Gl X "set") (hm2 : X.mg "set" = none) (he : EX X Wx e f)
    (hs : starEach [e] X.env = (false, eval e X.env) :: starEach [] X.env := by rfl) (hs2 : starEach [.Call (.Name "set" p2) [e] [] q] X.env = (false, eval (.Call (.Name "set" p2) [e] [] q) X.env) :: starEach [] X.env := by rfl) :
    EN X Wx (.Call (.Name "sorted" p) [.Call (.Name "set" p2) [e] [] q] [] pos) (xSortSetI f) := by
  have hset : PE X (.Call (.Name "set" p2) [e] [] q) (tCB (rSetLI X.K X.w) (tCons _ tNil)) := pe_callTy (cr_setLI hc) hg2 hm2 (by rfl) (pa_cons he pa_nil hs) (by decide) (by decide) hs (by rfl)
  refine PE.wk (pe_callB (L2.cr_sortedSet hc) hg hm (by rfl) (pa_cons hset pa_nil hs2) (by decide) (by decide) hs2 (by rfl)) ?_
  rintro σ H Q ⟨ρ, W, env, A, S, h⟩
  refine tN_then S h fun d W1 H1 env1 A1 v S1 F1 r1 h1 => ?_
  simp only at h1
  unfold sortSetID at h1
  split at h1
  · rename_i d' ds
    simp only [Rep] at r1
    obtain ⟨a, vs, rfl, q1, l⟩ := r1
    split at h1
    · rename_i ns en
      split at h1
      · rename_i c
        have evs := intsD_rep l en
        subst evs
        have ln : ns.length = ds.length := by rw [← l.len, List.length_map]
        refine ⟨a, ns, rfl, .of (S1.sub _ _ q1), by omega, fun b n hb hn => ?_⟩
        refine ⟨b, _, n, rfl, upd_same, by omega, fun ns' p' pw mm _ hp' => ?_⟩
        have e : ns' = setZ ns := setZ_eq pw fun k => by rw [mm k, decide_eq_true_eq]
        subst e
        have h2 := onW_of S1 h1
        have e2 : Ex W1 H1 W1 (upd H1 b (SetO X.w b (fun j => decide (j ∈ ns)) n)) := Ex.junk S1.sub hb
        have n2 : H1 p' = none := by
          by_cases z : p' = b
          · rw [z]; exact hb
          · rwa [upd_ne z] at hp'
        exact h2 W1 _ p' (e2.trans (Ex.junk (p := p') (o := .lst ((setZ ns).map V.int)) e2.sub hp')) (S1.sub.free n2) ⟨_, upd_same, rep_ints _⟩ n2
      · exact h1.elim
    · exact h1.elim
  · exact h1.elim
end

/-! ### in, not in -/
def inB (x y : D) : Bool := match y with
  | .list ds => ds.any fun z => z.eqv x
  | .tuple ds => ds.any fun z => z.eqv x
  | _ => false
def inOk (x y : D) : Bool := match y with
  | .list ds => PyData.plainAll ds && x.plain && decide (min (PyData.depthAll ds) x.depth ≤ 60)
  | .tuple ds => PyData.plainAll ds && x.plain && decide (min (PyData.depthAll ds) x.depth ≤ 60)
  | _ => false
def inD (x y : D) : Option D := if inOk x y then some (.bool (inB x y)) else none
def ninD (x y : D) : Option D := if inOk x y then some (.bool (!inB x y)) else none
section
variable {X : Cx} {Wx : WX}
theorem op_inD' (hu : X.A.units + 64 < cLine) : OpR X (compareOp .In) (tV2 X.K X.w inD) := by
  refine op_cmpD (b := inB) (fun x y z e => ?_) fun s x y z u v as bs Q e ra rb h => ?_
  · unfold inD at e; split at e <;> cases e; rfl
  · unfold inD at e
    split at e
    · rename_i c
      cases y with
      | list ds =>
        simp only [inOk, Bool.and_eq_true, decide_eq_true_eq] at c
        exact PySem.SeqAt.in_list_data rb ra c.1.1 c.1.2 (by omega) h
      | tuple ds =>
        simp only [inOk, Bool.and_eq_true, decide_eq_true_eq] at c
        exact PySem.SeqAt.in_tuple_data rb ra c.1.1 c.1.2 (by omega) h
      | _ => cases c
    · cases e
theorem op_ninD' (hu : X.A.units + 64 < cLine) : OpR X (compareOp .NotIn) (tV2 X.K X.w ninD) := by
  refine op_cmpD (b := fun x y => !inB x y) (fun x y z e => ?_) fun s x y z u v as bs Q e ra rb h => ?_
  · unfold ninD at e; split at e <;> cases e; rfl
  · unfold ninD at e
    split at e
    · rename_i c
      cases y with
      | list ds =>
        simp only [inOk, Bool.and_eq_true, decide_eq_true_eq] at c
        exact PySem.SeqAt.notIn_list_data rb ra c.1.1 c.1.2 (by omega) h
      | tuple ds =>
        simp only [inOk, Bool.and_eq_true, decide_eq_true_eq] at c
        exact PySem.SeqAt.notIn_tuple_data rb ra c.1.1 c.1.2 (by omega) h
      | _ => cases c
    · cases e
/-! ### is True, is not True: both bools -/
def isBD : D → D → Option D
  | .bool a, .bool b => some (.bool (decide (a = b)))
  | _, _ => none
def isntBD : D → D → Option D
  | .bool a, .bool b => some (.bool (!decide (a = b)))
  | _, _ => none
theorem op_isBD : OpR X (compareOp .Is) (tV2 X.K X.w isBD) := by
  refine OpR.wk L2.op_isBl ?_
  rintro v u H Q ⟨W, x, y, s, r1, r2, h⟩
  unfold isBD at h
  split at h
  · simp only [Rep] at r1 r2
    subst r1 r2
    exact ⟨_, _, rfl, rfl, h.flat s rfl⟩
  · exact h.elim
theorem op_isntBD : OpR X (compareOp .IsNot) (tV2 X.K X.w isntBD) := by
  refine OpR.wk L2.op_notBl ?_
  rintro v u H Q ⟨W, x, y, s, r1, r2, h⟩
  unfold isntBD at h
  split at h
  · simp only [Rep] at r1 r2
    subst r1 r2
    exact ⟨_, _, rfl, rfl, h.flat s rfl⟩
  · exact h.elim
/-! ### enumerate(xs) of a list -/
def enumF : Nat → List D → List D
  | _, [] => []
  | n, d :: r => .tuple [.int n, d] :: enumF (n + 1) r
theorem enumF_len : ∀ (n : Nat) (ds : List D), (enumF n ds).length = ds.length
  | _, [] => rfl
  | n, d :: r => by simp only [enumF, List.length_cons, enumF_len (n + 1) r]
theorem enumF_at : ∀ {n i : Nat} {ds : List D} {x : D}, (enumF n ds)[i]? = some x → ∃ d, ds[i]? = some d ∧ x = .tuple [.int ((n + i : Nat) : Int), d]
  | n, i, [], x, h => by simp [enumF] at h
  | n, 0, d :: r, x, h => by
    simp only [enumF, List.getElem?_cons_zero, Option.some.injEq] at h
    exact ⟨d, by simp, by rw [← h]; rfl⟩
  | n, i + 1, d :: r, x, h => by
    simp only [enumF, List.getElem?_cons_succ] at h
    obtain ⟨e, h1, h2⟩ := enumF_at h
    exact ⟨e, by simpa using h1, by rw [h2]; congr 3; omega⟩
def enumD : List D → Option (List D)
  | [.list ds] => some (enumF 0 ds)
  | _ => none
theorem wk_enum {K : PySem.W.Frag} {w : World} {W : Hp} {ds : List D} {a : Addr} {vs : List V} (h : W a = some (.lst vs)) (r : RepL K w W ds vs) : Wk K w W (enumF 0 ds) (Ite K a) where
  go i H W2 s1 s2 hi := by
    rw [enumF_len] at hi
    obtain ⟨v, hv, _⟩ := r.at (i := i) (List.getElem?_eq_getElem hi)
    exact ⟨vs, v, .inl (.of (s2 _ _ (s1 _ _ h))), hv⟩
  stop i H W2 s1 s2 hi := by
    rw [enumF_len] at hi
    exact ⟨vs, .inl (.of (s2 _ _ (s1 _ _ h))), by rw [r.len]; exact hi⟩
  yld i H W2 v H' x s1 s2 hx y := by
    obtain ⟨d, hd, rfl⟩ := enumF_at hx
    obtain ⟨v', hv, rv⟩ := r.at hd
    obtain ⟨T, x', rfl, hT, rfl, hall⟩ := y
    have e := hall vs (.inl (.of (s2 _ _ (s1 _ _ h))))
    rw [hv] at e
    have e : v' = x' := Option.some.inj e
    subst e
    have E := Ex.one (o := .tup [.int (i : Nat), v']) s2 hT
    refine ⟨_, E, ?_⟩
    simp only [Rep]
    refine ⟨T, _, rfl, .of upd_same, RepL.cons (by simp only [Rep, Nat.zero_add]) (RepL.cons (Rep.mono (s1.trans E.ext) d v' rv) RepL.nil)⟩
theorem ei_enum {e : Expr} {g : AF} {p pos tpos : Pos} {elts : List Expr} {kk : Nat} (hg : Gl X "enumerate") (hm : X.mg "enumerate" = none) (ha : EA X Wx [e] g) (hs : starEach [e] X.env = [(false, eval e X.env)] := by rfl) :
    EI X Wx (.Tuple elts kk tpos) (.Call (.Name "enumerate" p) [e] [] pos) (iArgs enumD g) := by
  refine PI.wk (pi_enum hg hm ha hs) ?_
  rintro σ H R ⟨ρ, W, env, A, S, h⟩
  refine tG_then S h fun ds W1 H1 env1 A1 vs S1 F1 r1 h1 => ?_
  simp only [enumD] at h1
  split at h1
  · simp only [RepL, Rep] at r1
    obtain ⟨v, _, rfl, ⟨a, us, rfl, q, l⟩, rfl⟩ := r1
    exact ⟨a, us, rfl, .inl (.of (S1.sub _ _ q)), wk_of S1 h1 rfl (wk_enum q l)⟩
  · exact h1.elim
/-! ### [*xs, ..] -/
def seqO : D → Out (List D)
  | .list ds => .ok ds
  | .tuple ds => .ok ds
  | _ => .bad
def aStar (f : XF) (g : AF) : AF := fun env => (f env).bind fun r => (seqO r.1).bind fun xs => (g r.2).bind fun q => .ok (xs ++ q.1, q.2)
theorem ea_star {e : Expr} {es : List Expr} {f : XF} {g : AF} {p : Pos} (he : EX X Wx e f) (hr : EA X Wx es g) (hs : starEach (.Starred e p :: es) X.env = (true, eval e X.env) :: starEach es X.env := by rfl) : EA X Wx (.Starred e p :: es) (aStar f g) := by
  refine PA.wk (StX.pa_star he hr hs) ?_
  rintro σ H Q ⟨ρ, W, env, A, S, h⟩
  refine tG_then S h fun d W1 H1 env1 A1 v S1 F1 r1 h1 => ?_
  have go : ∀ (ds : List D) (vs : List V), RepL X.K X.w W1 ds vs → onG X.K X.w X.mg Wx (RepL X.K X.w) ρ σ W1 H1 A1 ((g env1).bind fun q => .ok (ds ++ q.1, q.2)) Q → tL X Wx g σ H1 fun ys H2 => Q (vs ++ ys) H2 := fun ds vs rl hq =>
    tG_then S1 hq fun es W2 H2 env2 A2 us S2 F2 r2 h2 => h2 W2 H2 A2 _ S2 (Fr.refl _ _ _) ((RepL.mono F2.ext ds vs rl).append r2)
  cases d with
  | list ds =>
    simp only [Rep] at r1
    obtain ⟨a, vs, rfl, q, l⟩ := r1
    exact ⟨a, vs, rfl, .inr (.inl (.of (S1.sub _ _ q))), go ds vs l h1⟩
  | tuple ds =>
    simp only [Rep] at r1
    obtain ⟨a, vs, rfl, q, l⟩ := r1
    exact ⟨a, vs, rfl, .inl (Same.sqt S1.sub q), go ds vs l h1⟩
  | _ => exact h1.elim
end
end DP
set_option Elab.async false
set_option linter.all false
set_option maxRecDepth 100000
/-! DP, part 31: a < b < c < d; constants of the module that are tuples of texts; one of several defs, called. -/
namespace DP
open PySem PySem.Spec PyProof.Rows L2

/-! ### chains of any length -/
def chainR (o : D → D → Option D) (g : XF) (next : D → XF) (x : D) : XF := fun env => (g env).bind fun q => (liftO (o x q.1) q.2).bind fun t => (asB t).bind fun t => if t.1 = true then next q.1 t.2 else .ok (.bool false, t.2)
def chainE (o : D → D → Option D) (g : XF) (x : D) : XF := fun env => (g env).bind fun q => liftO (o x q.1) q.2
def xChainN (f : XF) (next : D → XF) : XF := fun env => (f env).bind fun r => next r.1 r.2
/-- the rest of a chain, its left value known -/
def CH (X : Cx) (Wx : WX) (pos : Pos) (ops : List CmpOp) (rs : List (Sem Value)) (F : D → XF) : Prop := ∀ (pins : List (Addr × Obj)) (s : Shared) (σ : L2.St) (H : Hp) (v : V) (u : Value) (Q : VK) (x : D) (ρ : Nat → Addr) (W : Hp) (env : Ev) (A : List (List Addr)),
  Inv X pins σ H s → RelV v u → SR X.K X.w ρ W H env σ A → Rep X.K X.w W x v → onX X Wx ρ σ W H A (F x env) Q → wpAny (model X.prog X.w) X.A (compareChain pos u ops rs) (EP X pins σ Q) X.xe s
section
variable {X : Cx} {Wx : WX} {a b c : Expr} {f g : XF} {pos : Pos} {op op' : CmpOp} {ops : List CmpOp} {o : D → D → Option D} {r' : Sem Value} {rs : List (Sem Value)} {F : D → XF}
theorem ch_last (ho : OpR X (compareOp op) (tV2 X.K X.w o)) (hb : EX X Wx b g) : CH X Wx pos [op] [eval b X.env] (chainE o g) := by
  intro pins s σ H v u Q x ρ W env A I r S rx h
  refine chain_last (thn (hb.run pins s σ H (fun w H2 => tV2 X.K X.w o v w H2 Q) I ?_) fun u2 s2 ⟨w, H2, I2, r2, q2⟩ => ho pins s2 σ H2 v w u u2 Q I2 r r2 q2)
  refine tG_then S h fun d W1 H1 env1 A1 w S1 F1 r1 h1 => ?_
  exact ⟨W1, x, d, S1.sub, Rep.mono F1.ext x v rx, r1, onV_of S1 h1⟩
theorem ch_link (ho : OpR X (compareOp op) (tV2 X.K X.w o)) (hb : EX X Wx b g) (k : CH X Wx pos (op' :: ops) (r' :: rs) F) : CH X Wx pos (op :: op' :: ops) (eval b X.env :: r' :: rs) (chainR o g F) := by
  intro pins s σ H v u Q x ρ W env A I r S rx h
  unfold chainR at h
  refine chain_link (thn (hb.run pins s σ H (fun w H2 => ∃ d W2 env2 A2, SR X.K X.w ρ W2 H2 env2 σ A2 ∧ Same W W2 ∧ Rep X.K X.w W2 d w ∧ onX X Wx ρ σ W2 H2 A2 ((liftO (o x d) env2).bind fun t => (asB t).bind fun t => if t.1 = true then F d t.2 else .ok (.bool false, t.2)) Q) I ?_) ?_)
  · exact tG_then S h fun d W1 H1 env1 A1 w S1 F1 r1 h1 => ⟨d, W1, env1, A1, S1, F1.ext, r1, h1⟩
  · rintro u2 s2 ⟨w, H2, I2, r2, d, W2, env2, A2, S2, sm, rw2, h2⟩
    cases eo : o x d with
    | none => rw [eo] at h2; exact h2.elim
    | some z =>
      rw [eo] at h2
      simp only [liftO_some, Out.bind_ok] at h2
      unfold asB at h2
      cases z with
      | bool q =>
        simp only [Out.bind_ok] at h2
        refine thn (ho pins s2 σ H2 v w u u2 (fun y H3 => ∃ W3, Ex W2 H2 W3 H3 ∧ y = .bl q) I2 r r2 ⟨W2, x, d, S2.sub, Rep.mono sm x v rx, rw2, by rw [eo]; exact fun W3 H3 y e3 r3 => ⟨W3, e3, by simpa only [Rep] using r3⟩⟩) ?_
        rintro u3 s3 ⟨y, H3, I3, r3, W3, e3, rfl⟩
        cases r3
        refine wpAny_truthy_bool ?_
        have S3 := S2.ex e3
        cases q with
        | false =>
          simp only [Bool.false_eq_true, if_false] at h2 ⊢
          exact ⟨.bl false, H3, I3, rfl, h2 W3 H3 A2 _ S3 (e3.fr _) (by simp only [Rep])⟩
        | true =>
          simp only [if_true] at h2 ⊢
          exact k pins s3 σ H3 w u2 Q d ρ W3 env2 A2 I3 r2 S3 (Rep.mono e3.ext d w rw2) (onG_fr h2 (e3.fr (ownd A2)))
      | _ => exact h2.elim
theorem ex_chainN {op2 : CmpOp} {b2 : Expr} {es : List Expr} (ha : EX X Wx a f) (k : CH X Wx pos (op :: op2 :: ops) (eval b X.env :: eval b2 X.env :: evalEach es X.env) F) (hm : lastMarks (op :: op2 :: ops) (b :: b2 :: es) = false := by with_unfolding_all rfl) :
    EX X Wx (.Compare a (op :: op2 :: ops) (b :: b2 :: es) pos) (xChainN f F) := by
  refine ⟨fun pins s σ H Q I h => ?_⟩
  obtain ⟨ρ, W, env, A, S, h⟩ := h
  unfold xChainN at h
  refine Compare_chain (thn (ha.run pins s σ H (fun v H1 => ∃ d W1 env1 A1, SR X.K X.w ρ W1 H1 env1 σ A1 ∧ Rep X.K X.w W1 d v ∧ onX X Wx ρ σ W1 H1 A1 (F d env1) Q) I ?_) ?_) hm
  · exact tG_then S h fun d W1 H1 env1 A1 v S1 F1 r1 h1 => ⟨d, W1, env1, A1, S1, r1, h1⟩
  · rintro u s1 ⟨v, H1, I1, r1, d, W1, env1, A1, S1, rd, h1⟩
    exact k pins s1 σ H1 v u Q d ρ W1 env1 A1 I1 r1 S1 rd h1
/-- a constant of the module: a tuple of texts -/
theorem ex_globT {x : Str} {t : Addr} {ss : List Str} {ob : Obj} {its : Array Value} {n : Nat} (hg : Gl X x) (hm : X.mg x = some (.ref t)) (hk : X.K.lookup t = some ob) (h1 : ob.cls = .type "tuple") (h2 : ob.data = .seq its n) (h3 : its.size ≤ sizeLine)
    (h4 : Vals (ss.map V.str) its.toList) (hd : (x == ("__debug__" : Str)) = false := by decide) : EX X Wx (.Name x pos) (xConst (.tuple (ss.map .str))) := by
  refine ex_const (pe_glob (v := .ref t) hg hm rfl hd) fun W => ?_
  simp only [Rep]
  refine ⟨t, ss.map V.str, rfl, .inr ⟨ob, its, n, hk, h1, h2, h3, h4⟩, ?_⟩
  clear h4
  induction ss with
  | nil => exact RepL.nil
  | cons y ss ih => exact RepL.cons (by simp only [Rep]) ih
end

/-! ### [f, g, ..][i](..) -/
def xCallFs (Fs : List (Nat × FD)) (ix : XF) (g : AF) : XF := fun env => (ix env).bind fun r => match r.1 with
  | .int i => (match atI Fs i with
    | some (n, F) => xCall n F g r.2
    | none => .bad)
  | _ => .bad
def FsOk (X : Cx) (j : Nat) (names : List Expr) (Fs : List (Nat × FD)) : Prop := ∃ as : List Addr, PA X names (fun _ H Q => Q (as.map V.ref) H) ∧ as.length = Fs.length ∧
  ∀ (i : Nat) a n F, as[i]? = some a → Fs[i]? = some (n, F) → ∃ fd k ps, k ≤ j ∧ FnG X.prog X.w X.K X.mg X.base k a fd ps (spF X.K X.w X.mg n F) ∧ PySem.W.keepIn X.K (.ref a) = true ∧ Binds X.K fd ps []
theorem atI_pair {α β : Type} {xs : List α} {ys : List β} (h : xs.length = ys.length) {i : Int} {y : β} (e : atI ys i = some y) : ∃ (j : Nat) (x : α), xs[j]? = some x ∧ ys[j]? = some y ∧ atI xs i = some x := by
  unfold atI at e ⊢
  rw [h]
  cases q : ixN ys.length i with
  | none => rw [q] at e; cases e
  | some j =>
    rw [q] at e
    have e : ys[j]? = some y := e
    have lt : j < xs.length := by rw [h]; exact (List.getElem?_eq_some_iff.mp e).1
    exact ⟨j, xs[j], List.getElem?_eq_getElem lt, e, List.getElem?_eq_getElem lt⟩
section
variable {X : Cx} {Wx : WX} {j k : Nat} {x : Str} {ps : List Str} {F : FD} {names : List Expr} {Fs : List (Nat × FD)} {p p1 p2 pos : Pos}
theorem fs_nil : FsOk X j [] [] := ⟨[], ⟨fun pos pins s σ H Q I h => pa_nil.run pos pins s σ H Q I h⟩, rfl, fun i a n F h => by simp at h⟩
theorem fs_cons (d : Def0 X.prog X.w X.K X.mg X.base k x ps F) (hk : k ≤ j) (hg : Gl X x) (r : FsOk X j names Fs) (hd : (x == ("__debug__" : Str)) = false := by decide)
    (hs : starEach (.Name x p :: names) X.env = (false, eval (.Name x p) X.env) :: starEach names X.env := by rfl) : FsOk X j (.Name x p :: names) ((ps.length, F) :: Fs) := by
  obtain ⟨f, fd, G, h1, h2, h3⟩ := d.ex
  obtain ⟨as, ha, hl, hf⟩ := r
  refine ⟨f :: as, PA.wk (pa_cons (pe_glob (v := .ref f) hg h1 rfl hd) ha hs) fun σ H Q q => q, by rw [List.length_cons, List.length_cons, hl], fun i a n F' e1 e2 => ?_⟩
  cases i with
  | zero =>
    simp only [List.getElem?_cons_zero, Option.some.injEq, Prod.mk.injEq] at e1 e2
    obtain ⟨e2, e3⟩ := e2
    subst e1 e2 e3
    exact ⟨fd, k, ps, hk, G, h2, h3⟩
  | succ i => exact hf i a n F' (by simpa using e1) (by simpa using e2)
theorem ex_callFs {ie e : Expr} {es : List Expr} {fi : XF} {g : AF} (h : FsOk X j names Fs) (hl : Fs.length ≤ 100) (hr : Room j X.A) (hq : X.A.guards = some []) (tk : Takes X Wx) (hi : EX X Wx ie fi) (ha : EA X Wx (e :: es) g) (hp : PlainIx ie)
    (hc : eval (.Call (.Subscript (.List names p1) ie p2) (e :: es) [] pos) X.env = (do callWith pos (← eval (.Subscript (.List names p1) ie p2) X.env) [] (backTo pos (starEach (e :: es) X.env)) (backToKw pos (keywordEach [] X.env))) := by rfl)
    (he : starEach (e :: es) X.env = (false, eval e X.env) :: starEach es X.env := by rfl) (hpl : (backTo pos (starEach es X.env)).any (·.1) = false := by rfl) :
    EX X Wx (.Call (.Subscript (.List names p1) ie p2) (e :: es) [] pos) (xCallFs Fs fi g) := by
  obtain ⟨as, hpa, hlen, hf⟩ := h
  refine ⟨fun pins s σ H Q I h => ?_⟩
  obtain ⟨ρ, W, env, A, S, h⟩ := h
  unfold xCallFs at h
  rw [hc]
  refine wpAny_bind ?_
  -- which one
  refine thn ((pe_ix (ix_list (X := X)) (pe_lst (pos := p1) hpa) hi hp).run pins s σ H (fun v H2 => ∃ (jj : Nat) (a : Addr) (n : Nat) (F : FD) (W2 : Hp) (env2 : Ev) (A2 : List (List Addr)), v = .ref a ∧ as[jj]? = some a ∧ Fs[jj]? = some (n, F) ∧ SR X.K X.w ρ W2 H2 env2 σ A2 ∧ onX X Wx ρ σ W2 H2 A2 (xCall n F g env2) Q) I ?_) ?_
  · refine ⟨by rw [List.length_map, hlen, sizeLine_eq]; omega, fun p n => ?_⟩
    have E := Ex.junk (o := .lst (as.map V.ref)) S.sub n
    refine tG_then (S.ex E) (onG_fr h (E.fr _)) fun d W1 H1 env1 A1 v S1 F1 r1 h1 => ?_
    cases d with
    | int i =>
      simp only [Rep] at r1
      subst r1
      simp only at h1
      cases ea : atI Fs i with
      | none => rw [ea] at h1; exact h1.elim
      | some nf =>
        obtain ⟨n0, F0⟩ := nf
        rw [ea] at h1
        obtain ⟨jj, a, e1, e2, e3⟩ := atI_pair hlen ea
        have hp1 : H1 p = some (.lst (as.map V.ref)) := F1.keep p _ upd_same fun z => by
          obtain ⟨_, o, ho⟩ := (S.ex E).own z
          obtain ⟨i', l', hi', hp'⟩ := z
          obtain ⟨_, o', ho'⟩ := S.own ⟨i', l', hi', hp'⟩
          rw [n] at ho'; cases ho'
        exact ⟨p, as.map V.ref, i, .ref a, rfl, rfl, .of hp1, by rw [atI_map, e3]; rfl, jj, a, n0, F0, W1, env1, A1, rfl, e1, e2, S1, h1⟩
    | _ => exact h1.elim
  · rintro u s2 ⟨v, H2, I2, r2, jj, a, n, F, W2, env2, A2, rfl, e1, e2, S2, h2⟩
    obtain rfl : u = Value.ref a := r2
    obtain ⟨fd, k, ps, hk, G, hkp, hb⟩ := hf jj a n F e1 e2
    refine PySem.W.callWith_K (h₀ := X.base) I2.ok.mod.kin hkp (thn (ha.run pos pins s2 σ H2 (fun vs H3 => spF X.K X.w X.mg n F vs H3 Q (fun cls d H => Wx cls d σ H)) I2 ?_) fun us s3 ⟨vs, H3, I3, r, q⟩ => ⟨I3.kIn, ?_⟩) he hpl
    · refine tG_then S2 h2 fun ds W3 H3 env3 A3 vs S3 F3 r3 h3 => ?_
      by_cases hn : ds.length = n
      · simp only [if_pos hn] at h3
        refine ⟨W3, ds, S3.sub, r3, hn, ?_⟩
        cases eF : F ds with
        | bad => rw [eF] at h3; exact h3.elim
        | ok d => rw [eF] at h3; exact fun W' H' v ex r => h3 W' H' A3 v (S3.ex ex) (ex.fr _) r
        | exc c d e' => rw [eF] at h3; exact fun C W' H' dx v g ex hx r => h3 C W' H' A3 dx v g (S3.ex ex) (ex.fr _) hx r
      · simp only [if_neg hn] at h3
        exact h3.elim
    · have hl' : us.length = ps.length := r.length.symm.trans (G.len _ _ _ _ q)
      have hb' := hb s3 us I3.kIn (by rw [List.append_nil]; exact hl')
      rw [List.append_nil] at hb'
      refine wpAny_call (codeAny_mono (G.go X.A X.stack s3 H3 ⟨us, []⟩ us vs Q _ (hr.mono hk) hq I3.env0 hb' r q) fun z s4 hz => ?_)
      cases z with
      | error y => exact passAt tk σ pins H3 s3 y s4 I3 hz
      | ok fl =>
        cases fl with
        | ret u => exact I3.after hz
        | next => exact False.elim hz
        | brk => exact False.elim hz
        | cont => exact False.elim hz
end
section
variable {X : Cx} {Wx : WX} {a : Expr} {f : XF} {pos : Pos}
theorem et_isN {j p2} (h : EX X Wx a f) : ET X Wx (.Compare a [.Is] [.Constant .none j p2] pos) (tst (x1 isN f)) := by
  refine PT.wk (pt_cmp (pc_isN h)) fun σ H Q h' => ?_
  obtain ⟨ρ, W, env, A, S, h'⟩ := tst_read h'
  refine tG_then S h' fun d W1 H1 env1 A1 v S1 F1 r1 h1 => ?_
  rw [rep_non r1]
  exact (onV_of S1 h1).flat S1.sub rfl
theorem et_notN {j p2} (h : EX X Wx a f) : ET X Wx (.Compare a [.IsNot] [.Constant .none j p2] pos) (tst (x1 notN f)) := by
  refine PT.wk (pt_cmp (pc_notN h)) fun σ H Q h' => ?_
  obtain ⟨ρ, W, env, A, S, h'⟩ := tst_read h'
  refine tG_then S h' fun d W1 H1 env1 A1 v S1 F1 r1 h1 => ?_
  rw [rep_non r1]
  exact (onV_of S1 h1).flat S1.sub rfl
end
end DP
set_option Elab.async false
set_option linter.all false
set_option maxRecDepth 100000
/-! DP, part 32: list comprehensions of any number of clauses: the machine. -/
namespace DP
open PySem PySem.Spec PyProof.Rows L2

theorem cT_more {elt t0 i0 t1 i1 : Expr} {ifs0 ifs1 : List Expr} {gens : List Comprehension} {scope : Scope} {pos : Pos} {k : Nat} (it acc : Value) (env : Env) (hk : gens[k]? = some ⟨t0, i0, ifs0, 0⟩) (hk1 : gens[k + 1]? = some ⟨t1, i1, ifs1, 0⟩) :
    compTurn (.ListComp elt gens scope pos) k it acc env = (do
      standAt i0.pos
      match ← pyNext it with
      | none => pure (.done .next)
      | some v =>
        letOwnedTupleGo t0 it v
        assign t0 env v
        let mut ok := true
        for c in ifs0 do if ok then ok ← isTrue c env (eval c env)
        if ok then
          let x ← eval i1 env
          standAt i1.pos
          let x ← foldedSetIterable i1 env x
          let _ ← runOwn (.compStart (.ListComp elt gens scope pos) (k + 1) (← holding [x] (pyIter x)) acc env) env
        again (.compLoop (.ListComp elt gens scope pos) k it acc env)) := by
  unfold compTurn
  simp only [hk, hk1]
  rfl
theorem cT_last {elt t0 i0 : Expr} {ifs0 : List Expr} {gens : List Comprehension} {scope : Scope} {pos : Pos} {k : Nat} (it acc : Value) (env : Env) (hk : gens[k]? = some ⟨t0, i0, ifs0, 0⟩) (hk1 : gens[k + 1]? = none) :
    compTurn (.ListComp elt gens scope pos) k it acc env = (do
      standAt i0.pos
      match ← pyNext it with
      | none => pure (.done .next)
      | some v =>
        letOwnedTupleGo t0 it v
        assign t0 env v
        let mut ok := true
        for c in ifs0 do if ok then ok ← isTrue c env (eval c env)
        if ok then (do let _ ← call (.builtin "list.append") [acc, ← eval elt env])
        again (.compLoop (.ListComp elt gens scope pos) k it acc env)) := by
  unfold compTurn
  simp only [hk, hk1]
  rfl
section
variable {prog : Program} {w : World} {A : Around} {R : Result → Shared → Prop} {s : Shared} {elt : Expr} {gens : List Comprehension} {scope : Scope} {pos : Pos} {it acc : Value} {env : Env}
/-- what runs behind the tests of clause k - 1: clause k, or the element -/
def Run (prog : Program) (w : World) (A : Around) (elt : Expr) (gens : List Comprehension) (scope : Scope) (pos : Pos) (acc : Value) (env : Env) (E : Value → Shared → Prop) (k : Nat) (Post : Shared → Prop) (s : Shared) : Prop :=
  match gens[k]? with
  | some g => wpAny (model prog w) A (eval g.iter env) (fun x s₄ => wpAny (model prog w) A (pyIter x) (fun it1 s₅ => codeAny (model prog w) A (.compStart (.ListComp elt gens scope pos) k it1 acc env) (fun r s' => match r with
      | .ok _ => Post s'
      | .error _ => False) s₅) E s₄) E s
  | none => wpAny (model prog w) A (eval elt env) (fun x s₄ => wpAny (model prog w) A (call (.builtin "list.append") [acc, x]) (fun _ s₅ => Post s₅) E s₄) E s
theorem cLoop {t0 i0 : Expr} {ifs0 : List Expr} {k : Nat} (hk : gens[k]? = some ⟨t0, i0, ifs0, 0⟩) (hk1 : ∀ g, gens[k + 1]? = some g → g.is_async = 0 ∧ ∀ x, foldedSetIterable g.iter env x = pure x) (I : Nat → Shared → Prop)
    (turn : ∀ n s, I n s → wpAny (model prog w) A (pyNext it) (fun r z₁ => match r with
      | none => R (.ok .next) z₁
      | some v => wpAny (model prog w) A (letOwnedTupleGo t0 it v) (fun _ z₂ => wpAny (model prog w) A (assign t0 env v) (fun _ z₃ =>
          wpAny (model prog w) A (forIn ifs0 true fun c r => if r = true then do let ok ← isTrue c env (eval c env); pure (ForInStep.yield ok) else pure (ForInStep.yield r)) (fun ok z₄ =>
            if ok = true then Run prog w A elt gens scope pos acc env (notedBy (model prog w) A env fun e s' => R (.error e) s') (k + 1) (fun s' => ∃ m, m < n ∧ I m s') z₄
            else ∃ m, m < n ∧ I m z₄) (notedBy (model prog w) A env fun e s' => R (.error e) s') z₃) (notedBy (model prog w) A env fun e s' => R (.error e) s') z₂) (notedBy (model prog w) A env fun e s' => R (.error e) s') z₁) (notedBy (model prog w) A env fun e s' => R (.error e) s') s)
    (n : Nat) (h : I n s) : codeAny (model prog w) A (.compLoop (.ListComp elt gens scope pos) k it acc env) R s := by
  refine codeAny_loop rfl I (fun n s hI => ?_) n h
  refine (wpAny_noted ?_ : wpAny _ A ((compTurn (.ListComp elt gens scope pos) k it acc env).onRaise (fun x => do noteFrame x env; theTreesLotGoes x)) _ _ s)
  cases e1 : gens[k + 1]? with
  | some g =>
    obtain ⟨t1, i1, ifs1, as⟩ := g
    obtain ⟨z1, hs⟩ := hk1 _ e1
    simp only at z1 hs
    subst z1
    rw [cT_more it acc env hk e1]
    refine wpAny_bind (wpAny_standAt (wpAny_bind (wpAny_mono (turn n s hI) (fun r z₁ h₁ => ?_) fun _ _ q => q)))
    cases r with
    | none => exact wpAny_pure h₁
    | some v =>
      refine wpAny_bind (wpAny_mono h₁ (fun _ z₂ h₂ => wpAny_bind (wpAny_mono h₂ (fun _ z₃ h₃ => wpAny_bind (wpAny_mono h₃ (fun ok z₄ h₄ => ?_) fun _ _ q => q)) fun _ _ q => q)) fun _ _ q => q)
      cases ok with
      | false => exact wpAny_pure ⟨rfl, h₄⟩
      | true =>
        simp only [if_true, Run, e1] at h₄
        refine wpAny_bind (wpAny_mono h₄ (fun x z₅ h₅ => wpAny_bind (wpAny_standAt (wpAny_bind (wpAny_of_eq (hs x) (wpAny_bind (wpAny_holding (wpAny_mono h₅ (fun it1 z₆ h₆ => wpAny_bind (wpAny_runOwn ?_)) fun _ _ q => q))))))) fun _ _ q => q)
        rw [Around.mark_none]
        refine codeAny_mono h₆ fun r s' hr => ?_
        cases r with
        | error e => exact hr.elim
        | ok f =>
          first
            | exact wpAny_pure ⟨rfl, hr⟩
            | exact wpAny_bind (wpAny_pure (wpAny_pure ⟨rfl, hr⟩))
  | none =>
    rw [cT_last it acc env hk e1]
    refine wpAny_bind (wpAny_standAt (wpAny_bind (wpAny_mono (turn n s hI) (fun r z₁ h₁ => ?_) fun _ _ q => q)))
    cases r with
    | none => exact wpAny_pure h₁
    | some v =>
      refine wpAny_bind (wpAny_mono h₁ (fun _ z₂ h₂ => wpAny_bind (wpAny_mono h₂ (fun _ z₃ h₃ => wpAny_bind (wpAny_mono h₃ (fun ok z₄ h₄ => ?_) fun _ _ q => q)) fun _ _ q => q)) fun _ _ q => q)
      cases ok with
      | false => exact wpAny_pure ⟨rfl, h₄⟩
      | true =>
        simp only [if_true, Run, e1] at h₄
        exact wpAny_bind (wpAny_bind (wpAny_mono h₄ (fun x z₅ h₅ => wpAny_bind (wpAny_mono h₅ (fun _ z₆ h₆ => wpAny_pure (wpAny_pure ⟨rfl, h₆⟩)) fun _ _ q => q)) fun _ _ q => q))
theorem cStart {k : Nat} {t1 i1 : Expr} {ifs1 : List Expr} (hk : gens[k]? = some ⟨t1, i1, ifs1, 0⟩) (h0 : codeAny (model prog w) A (.compLoop (.ListComp elt gens scope pos) k it acc env) R s)
    (h : wpAny (model prog w) A (pyIter it) (fun it' s' => codeAny (model prog w) A (.compLoop (.ListComp elt gens scope pos) k it' acc env) R s') (notedBy (model prog w) A env fun x s' => R (.error x) s') s) :
    codeAny (model prog w) A (.compStart (.ListComp elt gens scope pos) k it acc env) R s := by
  refine codeAny_of_tree ?_
  refine (wpAny_notedAt ?_ : wpAny _ _ ((compStart (.ListComp elt gens scope pos) k it acc env).onRaise (fun x => do noteFrame x env; standAt theWindowsPlace)) _ _ s)
  unfold compStart
  have e1 : (clausesOf (.ListComp elt gens scope pos))[k]? = some ⟨t1, i1, ifs1, 0⟩ := hk
  rw [e1]
  show wpAny _ _ (if (0 != 0) = true then _ else ask >>= _) _ _ s
  rw [if_neg (by decide)]
  refine wpAny_bind (wpAny_askSetting (wpAny_ite ?_))
  split
  · first
      | exact wpAny_bind (wpAny_pure (wpAny_pure (And.intro rfl h0)))
      | exact wpAny_pure (And.intro rfl h0)
  · first
      | exact wpAny_bind (wpAny_rule (wpAny_bind (wpAny_standAt (wpAny_bind (wpAny_mono h (fun it' s' h' => wpAny_pure (And.intro rfl h')) fun _ _ x => x)))))
      | (refine wpAny_bind (wpAny_rule ?_); exact (wpAny_bind (wpAny_standAt (wpAny_bind (wpAny_mono h (fun it' s' h' => wpAny_pure (And.intro rfl h')) fun _ _ x => x))) : wpAny _ _ (standAt i1.pos >>= _) _ _ s))
end
end DP
set_option Elab.async false
set_option linter.all false
set_option maxRecDepth 100000
/-! DP, part 33: list comprehensions of any number of clauses: the readings. -/
namespace DP
open PySem PySem.Spec PyProof.Rows L2

/-- behind the tests of a clause: the clauses that are left, then the element; Nx is reached behind them -/
def tNest (L : Addr) : List (TI × TG × TT × List Nat) → TE → L2.St → Hp → (Hp → Prop) → Prop
  | [], te, σ, H, Nx => te σ H fun y H7 => ∃ acc, H7 L = some (.lst acc) ∧ acc.length < sizeLine ∧ Nx (upd H7 L (.lst (acc ++ [y])))
  | (wi, g, tt, vs) :: cs, te, σ, H, Nx => wi σ H fun J H4 => ∃ W1 : Nat → Nat → Hp → Prop, (∃ m, W1 0 m H4) ∧ ∀ j k H, W1 j k H → (J.stop j H ∧ Nx H) ∨
      (J.go j H ∧ ∃ Nx1 : Hp → Prop, (∀ H', Nx1 H' → ∃ k', k' < k ∧ W1 (j + 1) k' H') ∧ ∀ x H', J.yld j H x H' → g x (wipe σ vs) H' fun σ3 H5 => wipe σ3 vs = wipe σ vs ∧ tt σ3 H5 fun b H6 => if b = true then tNest L cs te σ3 H6 Nx1 else Nx1 H6)
def allVs : List (TI × TG × TT × List Nat) → List Nat
  | [] => []
  | c :: _ => c.2.2.2
inductive NestOk (Y : Cx) : List Comprehension → List (TI × TG × TT × List Nat) → Prop
  | nil : NestOk Y [] []
  | cons {tg iter : Expr} {ifs : List Expr} {wi : TI} {g : TG} {tt : TT} {vs : List Nat} {gs : List Comprehension} {cs : List (TI × TG × TT × List Nat)} (hi : PI Y tg iter wi) (hg : PG Y tg g) (ht : PTs Y ifs tt) (hs : ∀ env x, foldedSetIterable iter env x = pure x) (hv : ∀ j ∈ allVs cs, j ∈ vs) (r : NestOk Y gs cs) :
      NestOk Y (⟨tg, iter, ifs, 0⟩ :: gs) ((wi, g, tt, vs) :: cs)
theorem NestOk.head {Y : Cx} {gs : List Comprehension} {cs : List (TI × TG × TT × List Nat)} (h : NestOk Y gs cs) (env : Env) : ∀ g, gs.head? = some g → g.is_async = 0 ∧ ∀ x, foldedSetIterable g.iter env x = pure x := by
  cases h with
  | nil => intro g e; cases e
  | cons hi hg ht hs hv r => intro g e; cases e; exact ⟨rfl, hs env⟩
theorem thnX {α : Type} {t : Sem α} {Q Q' : α → Shared → Prop} {M : Model} {A : Around} {E E' : Value → Shared → Prop} {s : Shared} (h : wpAny M A t Q E' s) (hx : E' = fun _ _ => False) (hQ : ∀ a s, Q a s → Q' a s) : wpAny M A t Q' E s := by
  subst hx; exact thnF h hQ
theorem drop_head {α : Type} {l r : List α} {k : Nat} (h : l.drop k = r) : l[k]? = r.head? := by
  rw [← h, List.head?_drop]
theorem drop_next {α : Type} {l r : List α} {k : Nat} {a : α} (h : l.drop k = a :: r) : l.drop (k + 1) = r := by
  have := congrArg List.tail h
  rwa [List.tail_drop] at this
/-- slots that stand -/
abbrev Std (σ σ' : L2.St) : Prop := σ'.length = σ.length ∧ ∀ (j : Nat) v, σ[j]? = some (some v) → σ'[j]? = some (some v)
theorem nest_run {Y : Cx} {elt : Expr} {te : TE} {gens gs : List Comprehension} {scope : Scope} {pos : Pos} {L : Addr} {cs : List (TI × TG × TT × List Nat)} (hc : Y.calm = true) (hxe : Y.xe = fun _ _ => False) (pe : PE Y elt te) (h : NestOk Y gs cs) :
    ∀ {k : Nat} (_ : gens.drop k = gs) {pins : List (Addr × Obj)} {s : Shared} {σ : L2.St} {H : Hp} {Nx : Hp → Prop} {E : Value → Shared → Prop} {Post : Shared → Prop}, Inv Y pins σ H s → tNest L cs te σ H Nx →
      (∀ {σ' : L2.St} {s' : Shared} {H' : Hp}, Inv Y pins σ' H' s' → σ'.length = σ.length → (∀ (j : Nat) v, (wipe σ (allVs cs))[j]? = some (some v) → σ'[j]? = some (some v)) → Nx H' → Post s') → Run Y.prog Y.w Y.A elt gens scope pos (.ref L) Y.env E k Post s := by
  induction h with
  | nil =>
    intro k hd pins s σ H Nx E Post I q fin
    have e1 : gens[k]? = none := drop_head hd
    unfold Run
    rw [e1]
    exact thnX (pe.run pins s σ H _ I q) hxe fun z s1 ⟨yv, H1, I1, r1, acc, hL, hz, nx⟩ => L2.app_ok (X := Y) I1 hL hz r1 fun s2 I2 => fin I2 rfl (fun j v e => (wipe_some e).1) nx
  | @cons tg iter ifs wi g tt vs gs cs hi hg ht hs hv r ih =>
    intro k hd pins s σ H Nx E Post I q fin
    have e1 : gens[k]? = some ⟨tg, iter, ifs, 0⟩ := drop_head hd
    have hd1 := drop_next hd
    unfold Run
    rw [e1]
    refine thnX (hi.run pins s σ H _ I q) hxe fun xv s1 hx => thnX hx hxe fun itv s2 ⟨it, fp, tn, J, H2, e2, I2, T, st, f, W1, ⟨m1, w1⟩, turn⟩ => ?_
    subst e2
    have stat : ∀ {H' : Hp}, (∀ b ∈ fp, H' b = none) → ∀ b ∈ fp, FpOk Y pins H' b := fun hn b hb => ⟨hn b hb, (f b hb).2⟩
    have loop : codeAny (model Y.prog Y.w) Y.A (.compLoop (.ListComp elt gens scope pos) k (.ref it) (.ref L) Y.env) (fun r s' => match r with | .ok _ => Post s' | .error _ => False) s2 := by
      refine cLoop e1 (fun g eg => r.head Y.env g (by rw [← drop_head hd1]; exact eg)) (fun n s' => ∃ j H', Inv Y pins (wipe σ vs) H' s' ∧ tn j s'.heap ∧ (∀ b ∈ fp, H' b = none) ∧ W1 j n H') ?_ m1 ⟨0, H2, I2.weak (wipe_length _ _) (fun j v e => (wipe_some e).1), st, fun b hb => (f b hb).1, w1⟩
      rintro n s3 ⟨j, H3, I3, st3, n3, w3⟩
      rcases turn j n H3 w3 with ⟨stop, nx⟩ | ⟨go, Nx1, hNx1, step⟩
      · refine thnF (T.done Y rfl rfl rfl hc j _ s3 (wipe σ vs) H3 (fun _ _ => False) I3 (stat n3) st3 stop) fun r s4 ⟨hr, I4⟩ => ?_
        subst hr
        exact fin I4 (wipe_length σ vs) (fun j v e => e) nx
      · refine thnF (T.item Y rfl rfl rfl hc j _ s3 (wipe σ vs) H3 (fun _ _ => False) I3 (stat n3) st3 go) fun r s4 ⟨u, hr, h4⟩ => ?_
        subst hr
        refine thnF h4 fun _ s5 ⟨x, H5, I5, r5, y5, st5, n5⟩ => ?_
        have I5' := I5.pinned (stat n5) (T.obj _ _ st5)
        refine thnX (hg.run _ s5 (wipe σ vs) H5 x u _ I5' r5 (step x H5 y5)) hxe fun _ s6 ⟨σ6, H6, I6, hw6, q6⟩ => ?_
        refine thnX (ht.run _ s6 σ6 H6 _ I6 q6) hxe fun b s7 ⟨H7, I7, q7⟩ => ?_
        have back : ∀ {σ8 : L2.St} {s' : Shared} {H' : Hp}, Inv Y (pins ++ pinsAt fp s5.heap) σ8 H' s' → σ8.length = σ6.length → (∀ (j : Nat) v, (wipe σ6 vs)[j]? = some (some v) → σ8[j]? = some (some v)) → Nx1 H' →
            ∃ m, m < n ∧ ∃ j H', Inv Y pins (wipe σ vs) H' s' ∧ tn j s'.heap ∧ (∀ b ∈ fp, H' b = none) ∧ W1 j m H' := fun {σ8 s' H'} I' hl hk nx => by
          obtain ⟨m', hm, w'⟩ := hNx1 H' nx
          have pin' : ∀ b ∈ fp, ∀ o, s5.heap.get? b = some o → s'.heap.get? b = some o ∧ H' b = none := fun b hb o e =>
            let z := I'.pin (b, o) (List.mem_append_right _ (List.mem_append_right _ (mem_pinsAt hb e)))
            ⟨z.1, z.2.1⟩
          refine ⟨m', hm, j + 1, H', I'.unpinned.weak (by rw [← hw6, wipe_length, hl]) (fun j v e => hk j v (by rw [hw6]; exact e)), T.keep _ _ _ st5 fun b hb o e => (pin' b hb o e).1, fun b hb => ?_, w'⟩
          obtain ⟨o, e, _⟩ := T.obj _ _ st5 b hb
          exact (pin' b hb o e).2
        cases b with
        | false =>
          simp only [Bool.false_eq_true, if_false] at q7 ⊢
          exact back I7 rfl (fun j v e => (wipe_some e).1) q7
        | true =>
          simp only [if_true] at q7 ⊢
          refine ih hd1 I7 q7 fun {σ8 s' H'} I8 hl hk nx => back I8 hl (fun j v e => hk j v ?_) nx
          obtain ⟨q1, q2⟩ := wipe_some e
          rw [DP.wipe_out _ fun z => q2 (hv j z)]
          exact q1
    exact cStart e1 loop (T.self Y.A 0 _ _ _ st loop)
end DP
set_option Elab.async false
set_option linter.all false
set_option maxRecDepth 100000
/-! DP, part 34: list comprehensions of any number of clauses, as values. -/
namespace DP
open PySem PySem.Spec PyProof.Rows L2

def tLcN (wi : TI) (g : TG) (tt : TT) (cs : List (TI × TG × TT × List Nat)) (te : TE) (vs : List Nat) : TE := fun σ H Q => wi σ H fun J H1 => ∀ L, H1 L = none → ∃ W : Nat → Nat → Hp → Prop, (∃ m, W 0 m (upd H1 L (.lst []))) ∧ ∀ i m H, W i m H →
  (J.stop i H ∧ Q (.ref L) H) ∨ (J.go i H ∧ ∃ Nx : Hp → Prop, (∀ H', Nx H' → ∃ m', m' < m ∧ W (i + 1) m' H') ∧ ∀ x H', J.yld i H x H' → g x (wipe σ vs) H' fun σ2 H2 => wipe σ2 vs = wipe σ vs ∧ tt σ2 H2 fun b H3 => if b = true then tNest L cs te σ2 H3 Nx else Nx H3)
section
variable {X : Cx}
/-- an empty list, just made -/
abbrev lst0 : Obj := { cls := .type "list", data := .seq ([] : List Value).toArray }
abbrev dct0 : Obj := { cls := .type "dict", data := .dict #[] }
theorem pe_lcN {elt tg iter : Expr} {ifs : List Expr} {gs : List Comprehension} {scope : Scope} {own : List (Str × Nat)} {pos : Pos} {wi : TI} {g : TG} {tt : TT} {te : TE} {cs : List (TI × TG × TT × List Nat)} (hc : X.calm = true) (hN : X.N.Nodup) (hi : PI X tg iter wi) (ok : BlkOk X.N X.env.scope scope own)
    (hv : ∀ j ∈ allVs cs, j ∈ own.map (·.2)) (hg : ∀ s H C cl fp, PG (X.blk s H scope (compEnvC scope cl C X.env) fp) tg g) (ht : ∀ s H C cl fp, PTs (X.blk s H scope (compEnvC scope cl C X.env) fp) ifs tt)
    (hcs : ∀ s H C cl fp, NestOk (X.blk s H scope (compEnvC scope cl C X.env) fp) gs cs) (he : ∀ s H C cl fp, PE (X.blk s H scope (compEnvC scope cl C X.env) fp) elt te) (hs : ∀ x, foldedSetIterable iter X.env x = pure x := by intro _; rfl) :
    PE X (.ListComp elt (⟨tg, iter, ifs, 0⟩ :: gs) scope pos) (tLcN wi g tt cs te (own.map (·.2))) := by
  refine ⟨fun pins s σ H Q I h => ?_⟩
  rw [eval_ListComp]
  have free : ∀ y ∈ scope.names, y.2 = .free → ∃ c, X.env.cells.lookup y.1 = some c := fun y hy e => (ok.free y hy e).elim (fun k => I.ok.has _ (.inl k)) fun k => I.ok.has _ (.inr k)
  refine wpAny_comprehension_free (use := none) rfl hs (closure_ok free) ok.kind (fun y hy e => by rw [ok.uniq y hy, e]) (thn (hi.run pins s σ H _ I h) fun xv z1 hx => thn hx fun itv z2 h2 => ?_)
  obtain ⟨it, fp, tn, J, H2, e, I2, T, st2, f2, q⟩ := h2
  subst e
  refine wpAny_newObj_type (newEnv_comp ?_) (by show 0 ≤ sizeLine; decide)
  generalize hL : z2.heap.objs.size = L
  have nL : H2 L = none := I2.hok.fresh (Nat.le_of_eq hL)
  obtain ⟨W, ⟨m0, w0⟩, turn⟩ := q L nL
  generalize hz3 : ({ z2 with heap := z2.heap.push lst0 } : Shared) = z3
  have hp3 : z3.heap = z2.heap.push lst0 := by rw [← hz3]
  have I3 : Inv X pins σ (upd H2 L (.lst [])) z3 := by
    rw [← hz3]
    exact I2.laid (t' := z2.toks) (fun b o e => Heap.get?_push_of_some _ e) (Nat.le_of_eq hL) ⟨Nat.zero_le _, [], 0, .nil, by rw [← hL]; exact Heap.get?_push_size _ rfl⟩
  have lt : ∀ b ∈ fp, b < z2.heap.objs.size := fun b hb => let ⟨_, e, _⟩ := T.obj _ _ st2 b hb; Heap.lt_size e
  have f3 : ∀ b ∈ fp, FpOk X pins (upd H2 L (.lst [])) b ∧ b < z3.heap.objs.size := fun b hb =>
    ⟨⟨by rw [upd_ne (by rw [← hL]; exact Nat.ne_of_lt (lt b hb))]; exact (f2 b hb).1, (f2 b hb).2⟩, by rw [hp3, Heap.size_push]; exact Nat.lt_succ_of_lt (lt b hb)⟩
  have st3 : tn 0 z3.heap := T.keep _ _ _ st2 fun b _ o e => by rw [hp3]; exact Heap.get?_push_of_some _ e
  have I4 := block_start I3 ok hN f3
  generalize hH3 : upd H2 L (.lst []) = H3 at I3 I4 w0 f3
  have pg := hg z3 H3 z3.heap.objs.size (cellsFrom (z3.heap.objs.size + 1) scope.names (cloFrom X.env.cells scope.names [])) fp
  have pt := ht z3 H3 z3.heap.objs.size (cellsFrom (z3.heap.objs.size + 1) scope.names (cloFrom X.env.cells scope.names [])) fp
  have pe := he z3 H3 z3.heap.objs.size (cellsFrom (z3.heap.objs.size + 1) scope.names (cloFrom X.env.cells scope.names [])) fp
  have pn := hcs z3 H3 z3.heap.objs.size (cellsFrom (z3.heap.objs.size + 1) scope.names (cloFrom X.env.cells scope.names [])) fp
  have fp0 : ∀ b ∈ fp, H3 b = none := fun b hb => (f3 b hb).1.1
  show codeAny _ _ (.compStart (.ListComp elt (⟨tg, iter, ifs, 0⟩ :: gs) scope pos) 0 (.ref it) (.ref L) (compEnvC scope (cellsFrom (z3.heap.objs.size + 1) scope.names (cloFrom X.env.cells scope.names [])) z3.heap.objs.size X.env)) (compPost (model X.prog X.w) X.A X.xe none _ (.ref L) z3.heap.objs.size) { z3 with heap := pushCells (z3.heap.push dct0) scope.names }
  generalize hce : compEnvC scope (cellsFrom (z3.heap.objs.size + 1) scope.names (cloFrom X.env.cells scope.names [])) z3.heap.objs.size X.env = ce at I4 pg pt pe pn ⊢
  have cL : ce.locals = z3.heap.objs.size := by subst hce; rfl
  generalize hz4 : ({ z3 with heap := pushCells (z3.heap.push dct0) scope.names } : Shared) = z4 at I4 ⊢
  have st4 : tn 0 z4.heap := T.keep _ _ _ st3 fun b _ o e => by rw [← hz4]; exact pushCells_keeps _ _ _ _ (Heap.get?_push_of_some _ e)
  have stat : ∀ {σ' : L2.St} {H' : Hp} {s' : Shared}, Inv (X.blk z3 H3 scope ce fp) [] σ' H' s' → (∀ b ∈ fp, H' b = none) → ∀ b ∈ fp, FpOk (X.blk z3 H3 scope ce fp) [] H' b := fun {σ' H' s'} I' hn b hb =>
    ⟨hn b hb, (I'.ok.exf b hb).1, I'.ok.exfs b hb, .inl hb, fun x c e => (I'.ok.exf b hb).2 x c e, fun p hp => absurd (hp : p ∈ ([] : List (Addr × Obj)) ++ []) (by simp)⟩
  have loop : codeAny (model X.prog X.w) X.A (.compLoop (.ListComp elt (⟨tg, iter, ifs, 0⟩ :: gs) scope pos) 0 (.ref it) (.ref L) ce) (compPost (model X.prog X.w) X.A X.xe none (EP X pins σ Q) (.ref L) z3.heap.objs.size) z4 := by
    refine cLoop (gens := ⟨tg, iter, ifs, 0⟩ :: gs) rfl (fun g eg => pn.head ce g (by rw [List.head?_eq_getElem?]; exact eg)) (fun n s' => ∃ i H', Inv (X.blk z3 H3 scope ce fp) [] (wipe σ (own.map (·.2))) H' s' ∧ tn i s'.heap ∧ (∀ b ∈ fp, H' b = none) ∧ W i n H') ?_ m0 ⟨0, H3, I4, st4, fp0, w0⟩
    rintro n z5 ⟨i, H5, I5, st5, n5, w5⟩
    rcases turn i n H5 w5 with ⟨stop, qq⟩ | ⟨go, Nx, hNx, step⟩
    · refine thnF (T.done (X.blk z3 H3 scope ce fp) rfl rfl rfl hc i [] z5 _ H5 (fun _ _ => False) I5 (stat I5 n5) st5 stop) fun r z6 ⟨hr, I6⟩ => ?_
      subst hr
      have I7 : Inv X pins σ H5 z6 := I3.call' (ch := fp) I6.os I6.base I6.hok I6.bare fun b hb => let y := (f3 b hb).1.2; ⟨y.2.2.1, y.1, y.2.2.2.1, y.2.2.2.2⟩
      have nC : H5 z3.heap.objs.size = none := by rw [← cL]; exact I6.free
      obtain ⟨m, hn, _⟩ := I6.loc
      obtain ⟨f0, f1, f2, f3', f4, f5⟩ := I3.fpOk (Nat.le_refl _) nC
      exact ⟨m, (by rw [← cL]; exact hn), fun h'' sb => ⟨.ref L, H5, I7.turned (t' := z6.toks) (fun b o hb e => (sb.2 b hb).trans e) f0 f1 f3' f4 f5, rfl, qq⟩⟩
    · refine thnF (T.item (X.blk z3 H3 scope ce fp) rfl rfl rfl hc i [] z5 _ H5 (fun _ _ => False) I5 (stat I5 n5) st5 go) fun r z6 ⟨u, hr, h6⟩ => ?_
      subst hr
      refine thnF h6 fun _ z7 ⟨x, H7, I7, r7, y7, st7, n7⟩ => ?_
      have I7' := I7.pinned (stat I7 n7) (T.obj _ _ st7)
      refine thnF (pg.run _ z7 _ H7 x u _ I7' r7 (step x H7 y7)) fun _ z8 ⟨σ8, H8, I8, hw8, q8⟩ => ?_
      refine thnF (pt.run _ z8 σ8 H8 _ I8 q8) fun b z9 ⟨H9, I9, q9⟩ => ?_
      have fin : ∀ {σ9 : L2.St} {s' : Shared} {H' : Hp}, Inv (X.blk z3 H3 scope ce fp) ([] ++ pinsAt fp z7.heap) σ9 H' s' → σ9.length = σ8.length → (∀ (j : Nat) v, (wipe σ (own.map (·.2)))[j]? = some (some v) → σ9[j]? = some (some v)) → Nx H' →
          ∃ m, m < n ∧ ∃ i H', Inv (X.blk z3 H3 scope ce fp) [] (wipe σ (own.map (·.2))) H' s' ∧ tn i s'.heap ∧ (∀ b ∈ fp, H' b = none) ∧ W i m H' := fun {σ9 s' H'} I' hl hk nx => by
        obtain ⟨m', hm, w'⟩ := hNx H' nx
        have pin' : ∀ b ∈ fp, ∀ o, z7.heap.get? b = some o → s'.heap.get? b = some o ∧ H' b = none := fun b hb o e =>
          let z := I'.pin (b, o) (List.mem_append_right _ (List.mem_append_right _ (mem_pinsAt hb e)))
          ⟨z.1, z.2.1⟩
        refine ⟨m', hm, i + 1, H', (I'.unpinned (pins := [])).weak (by rw [hl, ← hw8, wipe_length]) hk, T.keep _ _ _ st7 fun b hb o e => (pin' b hb o e).1, fun b hb => ?_, w'⟩
        obtain ⟨o, e, _⟩ := T.obj _ _ st7 b hb
        exact (pin' b hb o e).2
      cases b with
      | false =>
        simp only [Bool.false_eq_true, if_false] at q9 ⊢
        exact fin I9 rfl (fun j v e => by rw [← hw8] at e; exact (wipe_some e).1) q9
      | true =>
        simp only [if_true] at q9 ⊢
        refine nest_run (Y := X.blk z3 H3 scope ce fp) hc rfl pe pn (gens := ⟨tg, iter, ifs, 0⟩ :: gs) (k := 1) rfl I9 q9 fun {σ9 s' H'} I' hl hk nx => fin I' hl (fun j v e => hk j v ?_) nx
        rw [← hw8] at e
        obtain ⟨e1, e2⟩ := wipe_some e
        rw [DP.wipe_out _ fun z => e2 (hv j z)]
        exact e1
  exact codeAny_compStart_list loop (T.self X.A 0 _ _ _ st4 loop)
end
end DP
set_option Elab.async false
set_option linter.all false
set_option maxRecDepth 100000
/-! DP, part 35: list comprehensions of any number of clauses, reckoned. -/
namespace DP
open PySem PySem.Spec PyProof.Rows L2

/-- a clause behind the first: what it walks, its target, its tests; us: the target's slots; vs: what is forgotten at each of its turns -/
structure ClD where
  it : IF
  g : GF
  ts : TF
  us : List Nat
  vs : List Nat
def loopL (inner : Ev → Out (List D × Ev)) (g : GF) (ts : TF) (vs : List Nat) : List D → Ev → Out (List D × Ev)
  | [], env => .ok ([], env)
  | x :: xs, env => match g x env with
    | none => .bad
    | some e1 => (ts e1).bind fun t => if t.1 = true then (inner t.2).bind fun y => (loopL inner g ts vs xs (wipeE y.2 vs)).bind fun r => .ok (y.1 ++ r.1, r.2) else loopL inner g ts vs xs (wipeE t.2 vs)
def nestL (el : XF) : List ClD → Ev → Out (List D × Ev)
  | [], env => (el env).bind fun y => .ok ([y.1], y.2)
  | c :: cs, env => (c.it env).bind fun r => loopL (nestL el cs) c.g c.ts c.vs r.1 (wipeE r.2 c.vs)
def xCompN (it : IF) (g : GF) (ts : TF) (cs : List ClD) (el : XF) (vs : List Nat) : XF := fun env => (it env).bind fun r => match loopL (nestL el cs) g ts vs r.1 (wipeE r.2 vs) with
  | .ok (ds, e) => if ds.length ≤ sizeLine then .ok (.list ds, backE r.2 e vs) else .bad
  | _ => .bad
def tiOf (X : Cx) (cs : List ClD) : List (TI × TG × TT × List Nat) := cs.map fun c => (tI X Wx0 c.it, tGt X c.us c.g, tT X Wx0 c.ts, c.vs)
def σAft (σ : L2.St) : List ClD → L2.St
  | [] => σ
  | c :: _ => L2.wipe σ c.vs
section
variable (X : Cx) (L : Addr) (W1 H1 : Hp) (A1 : List (List Addr)) (ρ : Nat → Addr)
/-- within a comprehension that makes the list L: done is in it -/
structure CSt (env : Ev) (σ : L2.St) (done : List D) (acc : List V) (W H : Hp) (A : List (List Addr)) : Prop where
  sr : SR X.K X.w ρ W H env σ A
  fr : Fr W1 H1 (ownd A1) W H (ownd A)
  nw : W L = none
  no : ¬ ownd A L
  at_ : H L = some (.lst acc)
  rp : RepL X.K X.w W done acc
variable {X L W1 H1 A1 ρ}
variable {env env' : Ev} {σ σ' : L2.St} {done : List D} {acc : List V} {W H W' H' : Hp} {A A' : List (List Addr)}
theorem CSt.step (C : CSt X L W1 H1 A1 ρ env σ done acc W H A) (S' : SR X.K X.w ρ W' H' env' σ' A') (F : Fr W H (ownd A) W' H' (ownd A')) : CSt X L W1 H1 A1 ρ env' σ' done acc W' H' A' := by
  refine ⟨S', C.fr.trans F, ?_, fun z => ?_, F.keep L _ C.at_ C.no, RepL.mono F.ext _ _ C.rp⟩
  · cases z : W' L with
    | none => rfl
    | some u =>
      rcases F.new L (by rw [z]; exact fun z => nomatch z) C.nw with q | q
      · exact absurd q C.no
      · rw [C.at_] at q; cases q
  · rcases F.own L z with q | q
    · exact C.no q
    · rw [C.at_] at q; cases q
theorem CSt.wipe (C : CSt X L W1 H1 A1 ρ env σ done acc W H A) (vs : List Nat) : CSt X L W1 H1 A1 ρ (wipeE env vs) (L2.wipe σ vs) done acc W H (wipeA A vs) :=
  C.step (C.sr.wipe vs) (fr_sub fun p h => ownd_wipe h)
theorem CSt.snoc (C : CSt X L W1 H1 A1 ρ env σ done acc W H A) (nL : H1 L = none) {d : D} {v : V} (r : Rep X.K X.w W d v) : CSt X L W1 H1 A1 ρ env σ (done ++ [d]) (acc ++ [v]) W (upd H L (.lst (acc ++ [v]))) A := by
  refine ⟨C.sr.keep (Same.refl _) (fun b u q => ?_) fun b hb => ⟨upd_ne fun e => C.no (e ▸ hb), (C.sr.own hb).1⟩, ⟨C.fr.ext, fun b u hb hp => ?_, C.fr.new, C.fr.own⟩, C.nw, C.no, upd_same, C.rp.snoc r⟩
  · rw [upd_ne (fun e => by rw [e, C.nw] at q; cases q)]
    exact C.sr.sub b u q
  · rw [upd_ne (fun e => by rw [e, nL] at hb; cases hb)]
    exact C.fr.keep b u hb hp
/-- what the clauses that are left do -/
def NestRd (X : Cx) (L : Addr) (W1 H1 : Hp) (A1 : List (List Addr)) (ρ : Nat → Addr) (el : XF) (cs : List ClD) : Prop := ∀ (σ : L2.St) (H W : Hp) (env : Ev) (A : List (List Addr)) (done : List D) (acc : List V) (ys : List D) (env' : Ev) (Nx : Hp → Prop),
  CSt X L W1 H1 A1 ρ env σ done acc W H A → nestL el cs env = .ok (ys, env') → done.length + ys.length ≤ sizeLine →
    (∀ W' H' A' acc', CSt X L W1 H1 A1 ρ env' (σAft σ cs) (done ++ ys) acc' W' H' A' → Same W W' → Nx H') → tNest L (tiOf X cs) (tX X Wx0 el) σ H Nx
/-- one clause's loop -/
theorem loop_read {el : XF} {cs : List ClD} {g : GF} {ts : TF} {us vs : List Nat} (hus : ∀ j ∈ us, j ∈ vs) (hcs : ∀ c ∈ cs.head?, ∀ j ∈ c.vs, j ∈ vs) (NR : NestRd X L W1 H1 A1 ρ el cs) {xs : List D} {J : It} {ys : List D} {envE : Ev} {Fin : Hp → Prop}
    (wk : Wk X.K X.w W xs J) (C : CSt X L W1 H1 A1 ρ env (L2.wipe σ vs) done acc W H A) (h : loopL (nestL el cs) g ts vs xs env = .ok (ys, envE)) (hz : done.length + ys.length ≤ sizeLine)
    (fin : ∀ W' H' A' acc', CSt X L W1 H1 A1 ρ envE (L2.wipe σ vs) (done ++ ys) acc' W' H' A' → Same W W' → Fin H') :
    ∃ W2 : Nat → Nat → Hp → Prop, (∃ m, W2 0 m H) ∧ ∀ j k H, W2 j k H → (J.stop j H ∧ Fin H) ∨
      (J.go j H ∧ ∃ Nx1 : Hp → Prop, (∀ H', Nx1 H' → ∃ k', k' < k ∧ W2 (j + 1) k' H') ∧ ∀ x H', J.yld j H x H' → tGt X us g x (L2.wipe σ vs) H' fun σ3 H5 => L2.wipe σ3 vs = L2.wipe σ vs ∧ tT X Wx0 ts σ3 H5 fun b H6 => if b = true then tNest L (tiOf X cs) (tX X Wx0 el) σ3 H6 Nx1 else Nx1 H6) := by
  refine ⟨fun i m H => m = xs.length - i ∧ i ≤ xs.length ∧ ∃ W2 env2 A2 done2 rest acc2, CSt X L W1 H1 A1 ρ env2 (L2.wipe σ vs) done2 acc2 W2 H A2 ∧ Same W W2 ∧ done2 ++ rest = done ++ ys ∧ loopL (nestL el cs) g ts vs (xs.drop i) env2 = .ok (rest, envE),
    ⟨xs.length, by simp, Nat.zero_le _, W, env, A, done, ys, acc, C, Same.refl _, rfl, h⟩, ?_⟩
  rintro i m H2 ⟨rfl, hi, W2, env2, A2, done2, rest, acc2, C2, s2, eq2, c2⟩
  by_cases hlt : i < xs.length
  · obtain ⟨x, hx⟩ : ∃ x, xs[i]? = some x := ⟨_, List.getElem?_eq_getElem hlt⟩
    have hd : xs.drop i = x :: xs.drop (i + 1) := by
      have e1 := List.drop_eq_getElem_cons hlt
      rw [List.getElem?_eq_getElem hlt] at hx
      cases hx
      exact e1
    rw [hd] at c2
    unfold loopL at c2
    refine .inr ⟨wk.go i H2 W2 s2 C2.sr.sub hlt, fun H => i + 1 ≤ xs.length ∧ ∃ W2 env2 A2 done2 rest acc2, CSt X L W1 H1 A1 ρ env2 (L2.wipe σ vs) done2 acc2 W2 H A2 ∧ Same W W2 ∧ done2 ++ rest = done ++ ys ∧ loopL (nestL el cs) g ts vs (xs.drop (i + 1)) env2 = .ok (rest, envE),
      fun H' ⟨q1, q2⟩ => ⟨xs.length - (i + 1), by omega, rfl, q1, q2⟩, fun v H4 y => ?_⟩
    obtain ⟨W4, e4, r4⟩ := wk.yld i H2 W2 v H4 x s2 C2.sr.sub hx y
    have S4 := C2.sr.ex e4
    cases eg : g x env2 with
    | none => rw [eg] at c2; cases c2
    | some env5 =>
      rw [eg] at c2
      simp only at c2
      refine ⟨ρ, W4, env2, A2, x, env5, S4, r4, eg, fun σ5 A5 S5 p5 a5 => ?_⟩
      have ws : L2.wipe σ5 vs = L2.wipe σ vs := by rw [wipe_agr a5 hus, wipe_wipe]
      have C5 : CSt X L W1 H1 A1 ρ env5 σ5 done2 acc2 W4 H4 A5 := C2.step S5 ((e4.fr _).trans (fr_sub p5))
      refine ⟨by rw [ws], step0 S5 c2 fun b W6 H6 env6 A6 k S6 F6 r6 c6 => ?_⟩
      subst r6
      have C6 := C5.step S6 F6
      have s6 := (s2.trans e4.ext).trans F6.ext
      cases k with
      | false =>
        simp only [Bool.false_eq_true, if_false] at c6
        have C7 := C6.wipe vs
        rw [ws] at C7
        exact iteF ⟨hlt, W6, _, _, done2, rest, acc2, C7, s6, eq2, c6⟩
      | true =>
        simp only [if_true] at c6
        refine iteT ?_
        cases en : nestL el cs env6 with
        | bad => rw [en] at c6; cases c6
        | exc c d e => rw [en] at c6; cases c6
        | ok yr =>
          obtain ⟨y1, env7⟩ := yr
          rw [en, Out.bind_ok] at c6
          cases ed : loopL (nestL el cs) g ts vs (xs.drop (i + 1)) (wipeE env7 vs) with
          | bad => rw [ed] at c6; cases c6
          | exc c d' e => rw [ed] at c6; cases c6
          | ok rr =>
            obtain ⟨rest', envE'⟩ := rr
            rw [ed, Out.bind_ok] at c6
            obtain ⟨c8, c9⟩ : y1 ++ rest' = rest ∧ envE' = envE := by
              injection c6 with c6
              injection c6 with c6 c9
              exact ⟨c6, c9⟩
            subst c9
            have hlen : done2.length + y1.length ≤ sizeLine := by
              have e1 := congrArg List.length eq2
              rw [← c8] at e1
              simp only [List.length_append] at e1
              omega
            refine NR σ5 H6 W6 env6 A6 done2 acc2 y1 env7 _ C6 en hlen fun W7 H7 A7 acc7 C7 s7 => ?_
            have C8 := C7.wipe vs
            have ws' : L2.wipe (σAft σ5 cs) vs = L2.wipe σ vs := by
              cases cs with
              | nil => exact ws
              | cons c cs' =>
                have z : L2.wipe (L2.wipe σ5 c.vs) vs = L2.wipe σ5 vs := wipe_agr (us := c.vs) ⟨wipe_length _ _, fun j hj => DP.wipe_out _ hj⟩ (hcs c (by simp))
                exact z.trans ws
            rw [ws'] at C8
            exact ⟨hlt, W7, _, _, done2 ++ y1, rest', acc7, C8, s6.trans s7, by rw [List.append_assoc, c8]; exact eq2, ed⟩
  · have ei : i = xs.length := by omega
    subst ei
    refine .inl ⟨wk.stop _ H2 W2 s2 C2.sr.sub (Nat.le_refl _), ?_⟩
    rw [List.drop_length] at c2
    unfold loopL at c2
    obtain ⟨rfl, rfl⟩ : rest = [] ∧ env2 = envE := by
      injection c2 with c2
      injection c2 with c2 c5
      exact ⟨c2.symm, c5⟩
    rw [List.append_nil] at eq2
    subst eq2
    exact fin W2 H2 A2 acc2 C2 s2
/-- targets within what is forgotten; what is forgotten within what is forgotten outside -/
inductive ClsIn : List ClD → Prop
  | nil : ClsIn []
  | cons {c : ClD} {cs : List ClD} (h : ∀ j ∈ c.us, j ∈ c.vs) (k : ∀ c' ∈ cs.head?, ∀ j ∈ c'.vs, j ∈ c.vs) (r : ClsIn cs) : ClsIn (c :: cs)
theorem nest_read (nL : H1 L = none) {el : XF} {cs : List ClD} (h : ClsIn cs) : NestRd X L W1 H1 A1 ρ el cs := by
  induction h with
  | nil =>
    intro σ H W env A done acc ys env' Nx C e hz fin
    unfold nestL at e
    refine step0 C.sr e fun d W7 H7 env7 A7 v7 S7 F7 r7 c7 => ?_
    obtain ⟨e1, e2⟩ : [d] = ys ∧ env7 = env' := by
      injection c7 with c7
      injection c7 with c7 c9
      exact ⟨c7, c9⟩
    subst e1 e2
    have C7 := C.step S7 F7
    refine ⟨acc, C7.at_, ?_, fin W7 _ A7 _ (C7.snoc nL r7) F7.ext⟩
    rw [C.rp.len]
    simp only [List.length_cons, List.length_nil] at hz
    omega
  | @cons c cs hu hk _ ih =>
    intro σ H W env A done acc ys env' Nx C e hz fin
    unfold nestL at e
    show tI X Wx0 c.it σ H _
    refine step0 C.sr e fun xs W4 H4 env4 A4 J S4 F4 wk c4 => ?_
    exact loop_read (us := c.us) (vs := c.vs) hu hk ih wk ((C.step S4 F4).wipe c.vs) c4 hz fun W' H' A' acc' C' s' => fin W' H' A' acc' C' (F4.ext.trans s')
end
section
variable {X : Cx} {Wx : WX} {it : IF} {g : GF} {ts : TF} {el : XF} {cs : List ClD} {us vs : List Nat} {σ : L2.St} {H : Hp} {Q : VK}
theorem compN_read (hus : ∀ j ∈ us, j ∈ vs) (hcs : ∀ c ∈ cs.head?, ∀ j ∈ c.vs, j ∈ vs) (hin : ClsIn cs) (h : tN X Wx (xCompN it g ts cs el vs) σ H Q) : tLcN (tI X Wx it) (tGt X us g) (tT X Wx0 ts) (tiOf X cs) (tX X Wx0 el) vs σ H Q := by
  obtain ⟨ρ, W, env, A, S, h⟩ := h
  unfold xCompN at h
  refine tN_then S h fun xs W1 H1 env1 A1 J S1 F1 wk h1 => ?_
  intro L nL
  cases ec : loopL (nestL el cs) g ts vs xs (wipeE env1 vs) with
  | bad => rw [ec] at h1; exact h1.elim
  | exc c d e => rw [ec] at h1; exact h1.elim
  | ok r =>
    obtain ⟨ds, envE⟩ := r
    simp only [ec] at h1
    by_cases hz : ds.length ≤ sizeLine
    · rw [if_pos hz] at h1
      have nW : W1 L = none := S1.sub.free nL
      have oL : ¬ ownd A1 L := fun z => by
        obtain ⟨_, u, hu⟩ := S1.own z
        rw [nL] at hu; cases hu
      have E := Ex.junk (o := .lst ([] : List V)) S1.sub nL
      have C : CSt X L W1 H1 A1 ρ env1 σ [] [] W1 (upd H1 L (.lst [])) A1 := ⟨S1.ex E, E.fr _, nW, oL, upd_same, RepL.nil⟩
      refine loop_read hus hcs (nest_read nL hin) wk (C.wipe vs) ec (by simpa using hz) fun W2 H2 A2 acc2 C2 s2 => ?_
      exact h1 W2 H2 _ L (SR.back C2.sr S1 s2) (C2.fr.trans (fr_sub fun p h => ownd_wipe h)) C2.nw ⟨acc2, C2.at_, C2.rp⟩ (fun z => C2.no (ownd_wipe z)) (.inr nL)
    · rw [if_neg hz] at h1
      exact h1.elim
end
/-- the clauses behind the first, judged within a block -/
inductive ClsOk (Y : Cx) : List Comprehension → List ClD → Prop
  | nil : ClsOk Y [] []
  | cons {tg iter : Expr} {ifs : List Expr} {it : IF} {g : GF} {ts : TF} {us vs : List Nat} {gs : List Comprehension} {cs : List ClD} (hi : EI Y Wx0 tg iter it) (hg : EG Y tg us g) (ht : EQ Y Wx0 ifs ts) (r : ClsOk Y gs cs) (hs : ∀ env x, foldedSetIterable iter env x = pure x := by intro _ _; rfl) :
      ClsOk Y (⟨tg, iter, ifs, 0⟩ :: gs) (⟨it, g, ts, us, vs⟩ :: cs)
theorem allVs_tiOf {X : Cx} {cs : List ClD} {j : Nat} (h : j ∈ allVs (tiOf X cs)) : ∃ c ∈ cs.head?, j ∈ c.vs := by
  cases cs with
  | nil => cases h
  | cons c cs => exact ⟨c, by simp, h⟩
theorem ClsOk.nest {Y X : Cx} {gs : List Comprehension} {cs : List ClD} (h : ClsOk Y gs cs) (e1 : Y.K = X.K) (e2 : Y.w = X.w) (e3 : Y.mg = X.mg) (hin : ClsIn cs) : NestOk Y gs (tiOf Y cs) := by
  induction h with
  | nil => exact .nil
  | cons hi hg ht r hs ih =>
    cases hin with
    | cons hu hk hr => exact .cons hi hg ht hs (fun j hj => let ⟨c, hc, hj'⟩ := allVs_tiOf hj; hk c hc j hj') (ih hr)
theorem en_compN {X : Cx} {Wx : WX} {it : IF} {g : GF} {ts : TF} {el : XF} {cs : List ClD} {us : List Nat} {elt tg iter : Expr} {ifs : List Expr} {gs : List Comprehension} {scope : Scope} {own : List (Str × Nat)} {pos : Pos} (hc : X.calm = true) (hN : X.N.Nodup) (hi : EI X Wx tg iter it)
    (ok : BlkOk X.N X.env.scope scope own) (hus : us ⊆ own.map (·.2)) (hin : ClsIn cs) (hh : ∀ c ∈ cs.head?, ∀ j ∈ c.vs, j ∈ own.map (·.2)) (hg : ∀ s H C cl fp, EG (X.blk s H scope (compEnvC scope cl C X.env) fp) tg us g)
    (ht : ∀ s H C cl fp, EQ (X.blk s H scope (compEnvC scope cl C X.env) fp) Wx0 ifs ts) (hcs : ∀ s H C cl fp, ClsOk (X.blk s H scope (compEnvC scope cl C X.env) fp) gs cs) (he : ∀ s H C cl fp, EX (X.blk s H scope (compEnvC scope cl C X.env) fp) Wx0 elt el)
    (hs : ∀ x, foldedSetIterable iter X.env x = pure x := by intro _; rfl) : EN X Wx (.ListComp elt (⟨tg, iter, ifs, 0⟩ :: gs) scope pos) (xCompN it g ts cs el (own.map (·.2))) :=
  PE.wk (pe_lcN hc hN hi ok (fun j hj => let ⟨c, hc, hj'⟩ := allVs_tiOf hj; hh c hc j hj') hg ht (fun s H C cl fp => (hcs s H C cl fp).nest (X := X) rfl rfl rfl hin) he hs) fun σ H Q h => compN_read (fun j hj => hus hj) hh hin h
theorem in_nil {vs : List Nat} : ∀ c ∈ ([] : List ClD).head?, ∀ j ∈ c.vs, j ∈ vs := fun _ h => nomatch h
theorem in_cons {c : ClD} {cs : List ClD} {vs : List Nat} (h : ∀ j ∈ c.vs, j ∈ vs) : ∀ c' ∈ (c :: cs).head?, ∀ j ∈ c'.vs, j ∈ vs := by
  intro c' e
  have e : c = c' := Option.some.inj e
  subst e
  exact h
theorem all_nil {α : Type} {P : α → Prop} : ∀ y ∈ ([] : List α), P y := fun _ h => nomatch h
theorem all_cons {α : Type} {P : α → Prop} {a : α} {l : List α} (h : P a) (r : ∀ y ∈ l, P y) : ∀ y ∈ a :: l, P y := fun y hy => (List.mem_cons.mp hy).elim (fun e => e ▸ h) (r y)
theorem refsVE_base : HandSPX.refsVE [.type "ValueError", .type "Exception", .type "BaseException", .type "object"] = true := by decide +kernel
theorem refsVE_one {c : Addr} : HandSPX.refsVE [.ref c, .type "ValueError", .type "Exception", .type "BaseException", .type "object"] = true := refsVE_base
end DP
set_option Elab.async false
set_option linter.all false
set_option maxRecDepth 100000
/-! DP, part 36: plain laws of the newer words. -/
namespace DP
open PySem L2
section
variable {env e1 : Ev} {f g : XF} {o : D → D → Option D} {next : D → XF} {x d : D} {b : SF} {hs : List Hd} {c : Str}
@[simp] theorem xChainN_ap {k : D → XF} : xChainN f k env = (f env).bind fun r => k r.1 r.2 := rfl
@[simp] theorem chainR_ap : chainR o g next x env = (g env).bind fun q => (liftO (o x q.1) q.2).bind fun t => (asB t).bind fun t => if t.1 = true then next q.1 t.2 else .ok (.bool false, t.2) := rfl
@[simp] theorem chainE_ap : chainE o g x env = (g env).bind fun q => liftO (o x q.1) q.2 := rfl
@[simp] theorem sRaise_ap : sRaise c f env = (f env).bind fun r => .exc c r.1 r.2 := rfl
@[simp] theorem xSortSetI_ap : xSortSetI f env = (f env).bind fun r => liftO (sortSetID r.1) r.2 := rfl
@[simp] theorem aStar_ap {l : AF} : aStar f l env = (f env).bind fun r => (seqO r.1).bind fun xs => (l r.2).bind fun q => .ok (xs ++ q.1, q.2) := rfl
@[simp] theorem seqO_l {ds : List D} : seqO (.list ds) = .ok ds := rfl
@[simp] theorem seqO_t {ds : List D} : seqO (.tuple ds) = .ok ds := rfl
@[simp] theorem isBD_b {p q : Bool} : isBD (.bool p) (.bool q) = some (.bool (decide (p = q))) := rfl
theorem runB_nx {n : Nat} {B : SF} {ds : List D} {e : Ev} (h : B (ds.map .fz ++ List.replicate (n - ds.length) .no) = .ok (.nx, e)) : runB n B ds = .ok .none := by unfold runB; rw [h]
theorem runB_exc {n : Nat} {B : SF} {ds : List D} {e : Ev} (h : B (ds.map .fz ++ List.replicate (n - ds.length) .no) = .exc c d e) : runB n B ds = .exc c d e := by unfold runB; rw [h]
end
theorem cmp_map {α : Type} {F : α → D} {g : GF} {ts : TF} {el : XF} {vs : List Nat} {env : Ev} {b : α → Bool} {f : α → D} : ∀ L : List α, (∀ a ∈ L, ∃ e1, g (F a) env = some e1 ∧ ts e1 = .ok (b a, e1) ∧ (b a = true → el e1 = .ok (f a, e1)) ∧ wipeE e1 vs = env) →
    cmpL g ts el vs (L.map F) env = .ok ((L.filter b).map f, env)
  | [], _ => rfl
  | a :: L, h => by
    obtain ⟨e1, h1, h2, h3, h4⟩ := h a List.mem_cons_self
    have ih := cmp_map (F := F) (g := g) (ts := ts) (el := el) (vs := vs) (env := env) (b := b) (f := f) L fun x hx => h x (List.mem_cons_of_mem _ hx)
    rw [List.map_cons]
    unfold cmpL
    rw [h1]
    simp only [h2, Out.bind_ok]
    cases hb : b a with
    | false =>
      simp only [Bool.false_eq_true, if_false]
      rw [h4, ih, List.filter_cons_of_neg (by rw [hb]; decide)]
    | true =>
      simp only [if_true, h3 hb, Out.bind_ok]
      rw [h4, ih, List.filter_cons_of_pos hb]
      rfl
theorem filter_true {α : Type} (L : List α) : L.filter (fun _ => true) = L := by simp
theorem cmp_mapT {α : Type} {F : α → D} {g : GF} {el : XF} {vs : List Nat} {env : Ev} {f : α → D} (L : List α) (h : ∀ a ∈ L, ∃ e1, g (F a) env = some e1 ∧ el e1 = .ok (f a, e1) ∧ wipeE e1 vs = env) : cmpL g tTrue el vs (L.map F) env = .ok (L.map f, env) := by
  have q := cmp_map (F := F) (g := g) (ts := tTrue) (el := el) (vs := vs) (env := env) (b := fun _ => true) (f := f) L fun a ha => let ⟨e1, h1, h2, h3⟩ := h a ha; ⟨e1, h1, rfl, fun _ => h2, h3⟩
  rwa [filter_true] at q
theorem enumF_map {α : Type} (F : α → D) : ∀ (n : Nat) (L : List α), enumF n (L.map F) = (L.zipIdx n).map fun p => .tuple [.int (p.2 : Nat), F p.1]
  | _, [] => rfl
  | n, a :: L => by
    rw [List.map_cons, List.zipIdx_cons, List.map_cons, ← enumF_map F (n + 1) L]
    rfl
theorem zip_filter {α : Type} (b : α → Bool) : ∀ (n : Nat) (L : List α), ((L.zipIdx n).filter fun p => b p.1).map (·.1) = L.filter b
  | _, [] => rfl
  | n, a :: L => by
    rw [List.zipIdx_cons]
    cases h : b a with
    | true => rw [List.filter_cons_of_pos (by exact h), List.filter_cons_of_pos h, List.map_cons, zip_filter b (n + 1) L]
    | false => rw [List.filter_cons_of_neg (by rw [h]; decide), List.filter_cons_of_neg (by rw [h]; decide), zip_filter b (n + 1) L]
/-- a loop that looks for the first one and returns there, or goes through -/
theorem for_first {α : Type} {F : α → D} {g : GF} {body : SF} {b : α → Bool} {k : α → D} (I : Ev → Prop) : ∀ (L : List α) (env : Ev), (∀ a ∈ L, ∀ env, I env → ∃ e1, g (F a) env = some e1 ∧ (b a = true → ∃ e2, body e1 = .ok (.rt (k a), e2)) ∧ (b a = false → ∃ e2, body e1 = .ok (.nx, e2) ∧ I e2)) → I env →
    (∃ a e2, L.find? b = some a ∧ forL g body (L.map F) env = .ok (.rt (k a), e2)) ∨ ∃ e2, L.find? b = none ∧ forL g body (L.map F) env = .ok (.nx, e2) ∧ I e2
  | [], env, _, h => .inr ⟨env, rfl, rfl, h⟩
  | a :: L, env, h, hI => by
    obtain ⟨e1, h1, h2, h3⟩ := h a List.mem_cons_self env hI
    rw [List.map_cons]
    cases hb : b a with
    | true =>
      obtain ⟨e2, h4⟩ := h2 hb
      refine .inl ⟨a, e2, by rw [List.find?_cons_of_pos hb], ?_⟩
      unfold forL
      rw [h1]
      simp only [h4, Out.bind_ok]
    | false =>
      obtain ⟨e2, h4, h5⟩ := h3 hb
      have e : forL g body (F a :: L.map F) env = forL g body (L.map F) e2 := by
        conv => lhs; unfold forL
        rw [h1]
        simp only [h4, Out.bind_ok]
      rw [e, List.find?_cons_of_neg (by rw [hb]; decide)]
      exact for_first I L e2 (fun x hx => h x (List.mem_cons_of_mem _ hx)) h5
/-- a loop that reckons something: I by the items left -/
theorem for_fold {α β : Type} {F : α → D} {g : GF} {body : SF} {st : β → α → β} (I : Nat → β → Ev → Prop) : ∀ (L : List α) (b : β) (env : Ev), (∀ a ∈ L, ∀ n b env, I (n + 1) b env → ∃ e1 e2, g (F a) env = some e1 ∧ body e1 = .ok (.nx, e2) ∧ I n (st b a) e2) → I L.length b env →
    ∃ e2, forL g body (L.map F) env = .ok (.nx, e2) ∧ I 0 (L.foldl st b) e2
  | [], b, env, _, h => ⟨env, rfl, h⟩
  | a :: L, b, env, h, hI => by
    obtain ⟨e1, e2, h1, h2, h3⟩ := h a List.mem_cons_self L.length b env hI
    obtain ⟨e3, h4, h5⟩ := for_fold I L (st b a) e2 (fun x hx => h x (List.mem_cons_of_mem _ hx)) h3
    refine ⟨e3, ?_, h5⟩
    rw [List.map_cons]
    conv => lhs; unfold forL
    rw [h1]
    simp only [h2, Out.bind_ok]
    exact h4
theorem loop_map {α : Type} {F : α → D} {inner : Ev → Out (List D × Ev)} {g : GF} {vs : List Nat} {env : Ev} {f : α → List D} : ∀ L : List α, (∀ a ∈ L, ∃ e1 e2, g (F a) env = some e1 ∧ inner e1 = .ok (f a, e2) ∧ wipeE e2 vs = env) → loopL inner g tTrue vs (L.map F) env = .ok (L.flatMap f, env)
  | [], _ => rfl
  | a :: L, h => by
    obtain ⟨e1, e2, h1, h2, h3⟩ := h a List.mem_cons_self
    have ih := loop_map (F := F) (inner := inner) (g := g) (vs := vs) (env := env) (f := f) L fun x hx => h x (List.mem_cons_of_mem _ hx)
    rw [List.map_cons]
    unfold loopL
    rw [h1]
    simp only [tTrue_ap, Out.bind_ok, if_true, h2, h3, ih]
    rfl
theorem foldl_app {α β : Type} (f : α → List β) : ∀ (L : List α) (b : List β), L.foldl (fun b a => b ++ f a) b = b ++ L.flatMap f
  | [], b => by simp
  | a :: L, b => by rw [List.foldl_cons, foldl_app f L, List.flatMap_cons, List.append_assoc]
theorem setZ_len (L : List Int) : (setZ L).length ≤ L.length := by
  unfold setZ
  rw [List.length_mergeSort]
  exact dups_len _ L (Nat.le_refl _)
theorem sortSetI_ok {xs : List Int} (h : xs.length < 64) : sortSetID (.list (xs.map .int)) = some (.list ((setZ xs).map .int)) := by
  simp only [sortSetID, intsD_map, List.length_map, if_pos h]
end DP
set_option Elab.async false
set_option linter.all false
set_option maxRecDepth 100000
set_option maxHeartbeats 1000000
namespace K03
open PySem PySem.Spec PyProof.Rows L2 DP
def topS (i : Nat) : Stmt := PySem.Challenge.pw_waysflooded_k03_whole_rows_of_rules.main.body.getD i (.Pass ⟨0, 0, 0, 0⟩)
abbrev st_width : Stmt := topS 7
abbrev N_width : List Str := ["length", "found", "_"]
abbrev P_width : List Str := ["length"]
theorem S_width : FnScope N_width P_width (defScope st_width) := ⟨rfl, rfl, rfl, by decide +kernel, rfl, by decide +kernel, by decide +kernel⟩
def Y1_width : SF :=
    sSet 1 (x2 mulD (xConst (.int 2)) (xVar 1))
def B_width : SF :=
    sSeq (sSet 1 (xConst (.int 1)))
    (sSeq (sFor (iArgs rng1 (aCons (x2 subD (xConst (.int 16)) (xVar 0)) (aNil))) (gN 2) (Y1_width))
    (sRet (xVar 1)))
def F_width : FD := runB 3 B_width
abbrev st_starts : Stmt := topS 21
abbrev N_starts : List Str := ["spans", "most", "found", "first", "last", "number"]
abbrev P_starts : List Str := ["spans", "most"]
theorem S_starts : FnScope N_starts P_starts (defScope st_starts) := ⟨rfl, rfl, rfl, by decide +kernel, rfl, by decide +kernel, by decide +kernel⟩
def Y1_starts : SF :=
    sDrop (xMutL 2 opExt (aCons (xLst (aCons (xVar 3) (aCons (x2 addD (xVar 4) (xConst (.int 1))) (aNil)))) (aNil)))
def E2_starts : XF :=
    xVar 5
def B_starts : SF :=
    sSeq (sOwn 2 (xLst (aCons (xConst (.int 0)) (aNil))))
    (sSeq (sFor (iSeq (xVar 0)) (gT (glCons (gN 3) (glCons (gN 4) (glNil)))) (Y1_starts))
    (sRet (xSortSetI (xComp (iSeq (xVar 2)) (gN 5) (tst (x2 ltD (xVar 5) (xVar 1))) (E2_starts) [5]))))
def F_starts : FD := runB 6 B_starts
abbrev st__law_draws : Stmt := topS 30
abbrev N__law_draws : List Str := ["script", "draws", "k", "rest", "turn", "stirred"]
abbrev P__law_draws : List Str := ["script"]
theorem S__law_draws : FnScope N__law_draws P__law_draws (defScope st__law_draws) := ⟨rfl, rfl, rfl, by decide +kernel, rfl, by decide +kernel, by decide +kernel⟩
def Y1__law_draws : SF :=
    sIf (tst (x2 gtD (xVar 3) (xConst (.int 0)))) (sSeq (sDrop (xMutL 1 opApp (aCons (x2 modD (xn intD (aCons (xVar 3) (aNil))) (xConst (.int 65536))) (aNil))))
    (sSet 3 (x2 fdivD (xVar 3) (xConst (.int 65536))))) (sNext)
def Y2__law_draws : SF :=
    sSeq (sSet 3 (xn absD (aCons (xAtS 0 (xVar 2)) (aNil))))
    (sIf (tst (x2 geD (xVar 3) (x2 powD (xConst (.int 10)) (xConst (.int 18))))) (sFor (iArgs rng1 (aCons (xConst (.int 60)) (aNil))) (gN 4) (Y1__law_draws)) (sSeq (sSet 5 (x2 modD (xn intD (aCons (x2 addD (x2 mulD (xVar 3) (xConst (.int 48271))) (x2 mulD (x2 addD (xVar 2) (xConst (.int 1))) (xConst (.int 69621)))) (aNil))) (xConst (.int 2147483647))))
    (sSeq (sSet 5 (x2 modD (xn intD (aCons (x2 addD (x2 addD (x2 mulD (xVar 5) (xConst (.int 16807))) (x2 mulD (xConst (.int 11)) (xVar 2))) (xConst (.int 5))) (aNil))) (xConst (.int 2147483629))))
    (sSeq (sDrop (xMutL 1 opApp (aCons (x2 modD (xn intD (aCons (xVar 5) (aNil))) (xConst (.int 65536))) (aNil))))
    (sDrop (xMutL 1 opApp (aCons (x2 modD (xn intD (aCons (x2 fdivD (xVar 5) (xConst (.int 65536))) (aNil))) (xConst (.int 32768))) (aNil))))))))
def B__law_draws : SF :=
    sSeq (sOwn 1 (xLst (aNil)))
    (sSeq (sFor (iArgs rng1 (aCons (xn min2D (aCons (xConst (.int 63)) (aCons (xLenS 0) (aNil)))) (aNil))) (gN 2) (Y2__law_draws))
    (sRet (xVar 1)))
def F__law_draws : FS := runS 6 B__law_draws
abbrev st__law_mix : Stmt := topS 31
abbrev N__law_mix : List Str := ["draws", "k", "many", "cell"]
abbrev P__law_mix : List Str := ["draws", "k", "many"]
theorem S__law_mix : FnScope N__law_mix P__law_mix (defScope st__law_mix) := ⟨rfl, rfl, rfl, by decide +kernel, rfl, by decide +kernel, by decide +kernel⟩
def B__law_mix : SF :=
    sSeq (sSet 3 (xConst (.int 0)))
    (sSeq (sIf (tst (x2 gtD (xn lenD (aCons (xVar 0) (aNil))) (xConst (.int 0)))) (sSet 3 (x2 ixD (xVar 0) (x2 modD (xn intD (aCons (xVar 1) (aNil))) (xn lenD (aCons (xVar 0) (aNil)))))) (sNext))
    (sSeq (sIf (tst (x2 ltD (xVar 1) (xn lenD (aCons (xVar 0) (aNil))))) (sRet (x2 modD (xn intD (aCons (xVar 3) (aNil))) (xVar 2))) (sNext))
    (sRet (x2 modD (xn intD (aCons (x2 fdivD (xn intD (aCons (x2 addD (x2 mulD (xVar 3) (xConst (.int 7919))) (x2 mulD (xVar 1) (xConst (.int 104729)))) (aNil))) (xConst (.int 3))) (aNil))) (xVar 2)))))
def F__law_mix : FD := runB 4 B__law_mix
abbrev st__law_two : Stmt := topS 32
abbrev N__law_two : List Str := ["k", "found", "turn"]
abbrev P__law_two : List Str := ["k"]
theorem S__law_two : FnScope N__law_two P__law_two (defScope st__law_two) := ⟨rfl, rfl, rfl, by decide +kernel, rfl, by decide +kernel, by decide +kernel⟩
def Y1__law_two : SF :=
    sSet 1 (x2 mulD (xConst (.int 2)) (xVar 1))
def B__law_two : SF :=
    sSeq (sSet 1 (xConst (.int 1)))
    (sSeq (sFor (iArgs rng1 (aCons (xVar 0) (aNil))) (gN 2) (Y1__law_two))
    (sRet (xVar 1)))
def F__law_two : FD := runB 3 B__law_two
abbrev st_is_prefix : Stmt := topS 8
abbrev N_is_prefix : List Str := ["told", "number", "length"]
abbrev P_is_prefix : List Str := ["told"]
theorem S_is_prefix : FnScope N_is_prefix P_is_prefix (defScope st_is_prefix) := ⟨rfl, rfl, rfl, by decide +kernel, rfl, by decide +kernel, by decide +kernel⟩
def B_is_prefix : SF :=
    sSeq (sAsg (gT (glCons (gN 1) (glCons (gN 2) (glNil)))) (xVar 0))
    (sRet (xBool (tAndF (tst (xChain leD leD (xConst (.int 0)) (xVar 2) (xConst (.int 16)))) (tAndF (tst (xChain leD ltD (xConst (.int 0)) (xVar 1) (xConst (.int 65536)))) (tst (x2 eqD (x2 modD (xVar 1) (xCall 1 F_width (aCons (xVar 2) (aNil)))) (xConst (.int 0))))))))
def F_is_prefix : FD := runB 3 B_is_prefix
abbrev st_span : Stmt := topS 9
abbrev N_span : List Str := ["prefix"]
abbrev P_span : List Str := ["prefix"]
theorem S_span : FnScope N_span P_span (defScope st_span) := ⟨rfl, rfl, rfl, by decide +kernel, rfl, by decide +kernel, by decide +kernel⟩
def B_span : SF :=
    sRet (xTup (aCons (x2 ixD (xVar 0) (xConst (.int 0))) (aCons (x2 subD (x2 addD (x2 ixD (xVar 0) (xConst (.int 0))) (xCall 1 F_width (aCons (x2 ixD (xVar 0) (xConst (.int 1))) (aNil)))) (xConst (.int 1))) (aNil))))
def F_span : FD := runB 1 B_span
abbrev st_holds : Stmt := topS 10
abbrev N_holds : List Str := ["prefix", "address"]
abbrev P_holds : List Str := ["prefix", "address"]
theorem S_holds : FnScope N_holds P_holds (defScope st_holds) := ⟨rfl, rfl, rfl, by decide +kernel, rfl, by decide +kernel, by decide +kernel⟩
def B_holds : SF :=
    sRet (xChain leD ltD (x2 ixD (xVar 0) (xConst (.int 0))) (xVar 1) (x2 addD (x2 ixD (xVar 0) (xConst (.int 0))) (xCall 1 F_width (aCons (x2 ixD (xVar 0) (xConst (.int 1))) (aNil)))))
def F_holds : FD := runB 2 B_holds
abbrev st__law_holds : Stmt := topS 33
abbrev N__law_holds : List Str := ["prefix", "address", "wide"]
abbrev P__law_holds : List Str := ["prefix", "address"]
theorem S__law_holds : FnScope N__law_holds P__law_holds (defScope st__law_holds) := ⟨rfl, rfl, rfl, by decide +kernel, rfl, by decide +kernel, by decide +kernel⟩
def B__law_holds : SF :=
    sSeq (sSet 2 (xCall 1 F__law_two (aCons (x2 subD (xConst (.int 16)) (x2 ixD (xVar 0) (xConst (.int 1)))) (aNil))))
    (sRet (xChain leD ltD (x2 ixD (xVar 0) (xConst (.int 0))) (xVar 1) (x2 addD (x2 ixD (xVar 0) (xConst (.int 0))) (xVar 2))))
def F__law_holds : FD := runB 3 B__law_holds
abbrev st__law_rules : Stmt := topS 34
abbrev N__law_rules : List Str := ["draws", "first", "most", "found", "t", "k", "spans_there", "j", "least_there", "length", "wide", "number"]
abbrev P__law_rules : List Str := ["draws", "first", "most"]
theorem S__law_rules : FnScope N__law_rules P__law_rules (defScope st__law_rules) := ⟨rfl, rfl, rfl, by decide +kernel, rfl, by decide +kernel, by decide +kernel⟩
def Y1__law_rules : SF :=
    sSeq (sSet 9 (x2 ixD (xLst (aCons (xConst (.int 0)) (aCons (xConst (.int 1)) (aCons (xConst (.int 2)) (aCons (xConst (.int 15)) (aCons (xConst (.int 16)) (aCons (xConst (.int 14)) (aNil)))))))) (xCall 3 F__law_mix (aCons (xVar 0) (aCons (x2 addD (xVar 5) (xVar 7)) (aCons (xConst (.int 6)) (aNil)))))))
    (sSeq (sSet 10 (xCall 1 F__law_two (aCons (x2 subD (xConst (.int 16)) (xVar 9)) (aNil))))
    (sSeq (sSet 11 (x2 ixD (xLst (aCons (xCall 3 F__law_mix (aCons (xVar 0) (aCons (x2 addD (x2 addD (xVar 5) (xConst (.int 2))) (xVar 7)) (aCons (xConst (.int 65536)) (aNil))))) (aCons (xCall 3 F__law_mix (aCons (xVar 0) (aCons (x2 addD (x2 addD (xVar 5) (xConst (.int 2))) (xVar 7)) (aCons (xConst (.int 8)) (aNil))))) (aNil)))) (xCall 3 F__law_mix (aCons (xVar 0) (aCons (x2 addD (x2 addD (xVar 5) (xConst (.int 4))) (xVar 7)) (aCons (xConst (.int 2)) (aNil)))))))
    (sDrop (xMutL 6 opApp (aCons (xTup (aCons (x2 subD (xVar 11) (x2 modD (xn intD (aCons (xVar 11) (aNil))) (xVar 10))) (aCons (xVar 9) (aNil)))) (aNil))))))
def Y2__law_rules : SF :=
    sSeq (sSet 5 (x2 addD (x2 addD (xVar 1) (xConst (.int 1))) (x2 mulD (xConst (.int 9)) (xVar 4))))
    (sSeq (sOwn 6 (xLst (aNil)))
    (sSeq (sFor (iArgs rng1 (aCons (xConst (.int 2)) (aNil))) (gN 7) (Y1__law_rules))
    (sSeq (sSet 8 (x2 ixD (xLst (aCons (xConst (.int 0)) (aCons (xCall 3 F__law_mix (aCons (xVar 0) (aCons (x2 addD (xVar 5) (xConst (.int 6))) (aCons (xConst (.int 256)) (aNil))))) (aCons (xConst (.int 5)) (aNil))))) (xCall 3 F__law_mix (aCons (xVar 0) (aCons (x2 addD (xVar 5) (xConst (.int 7))) (aCons (xConst (.int 3)) (aNil)))))))
    (sDrop (xMutL 3 opApp (aCons (xTup (aCons (x2 ixD (xLst (aCons (xConst (.str "let")) (aCons (xConst (.str "bar")) (aNil)))) (xCall 3 F__law_mix (aCons (xVar 0) (aCons (x2 addD (xVar 5) (xConst (.int 8))) (aCons (xConst (.int 2)) (aNil)))))) (aCons (x2 ixD (xVar 6) (xConst (.int 0))) (aCons (x2 ixD (xVar 6) (xConst (.int 1))) (aCons (xVar 8) (aCons (x2 addD (xVar 8) (xCall 3 F__law_mix (aCons (xVar 0) (aCons (x2 addD (xVar 5) (xConst (.int 7))) (aCons (x2 subD (xConst (.int 256)) (xVar 8)) (aNil)))))) (aNil))))))) (aNil)))))))
def B__law_rules : SF :=
    sSeq (sOwn 3 (xLst (aNil)))
    (sSeq (sFor (iArgs rng1 (aCons (xCall 3 F__law_mix (aCons (xVar 0) (aCons (xVar 1) (aCons (x2 addD (xVar 2) (xConst (.int 1))) (aNil))))) (aNil))) (gN 4) (Y2__law_rules))
    (sRet (xVar 3)))
def F__law_rules : FD := runB 12 B__law_rules
abbrev st__law_corners : Stmt := topS 36
abbrev N__law_corners : List Str := ["rules", "sources_there", "targets_there", "marks_there", "one", "found", "source", "target", "mark"]
abbrev P__law_corners : List Str := ["rules"]
theorem S__law_corners : FnScope N__law_corners P__law_corners (defScope st__law_corners) := ⟨rfl, rfl, rfl, by decide +kernel, rfl, by decide +kernel, by decide +kernel⟩
def Y1__law_corners : SF :=
    sSeq (sSet 1 (x2 addD (xVar 1) (xLst (aCons (x2 ixD (x2 ixD (xVar 4) (xConst (.int 1))) (xConst (.int 0))) (aCons (x2 addD (x2 ixD (x2 ixD (xVar 4) (xConst (.int 1))) (xConst (.int 0))) (xCall 1 F__law_two (aCons (x2 subD (xConst (.int 16)) (x2 ixD (x2 ixD (xVar 4) (xConst (.int 1))) (xConst (.int 1)))) (aNil)))) (aNil))))))
    (sSeq (sSet 2 (x2 addD (xVar 2) (xLst (aCons (x2 ixD (x2 ixD (xVar 4) (xConst (.int 2))) (xConst (.int 0))) (aCons (x2 addD (x2 ixD (x2 ixD (xVar 4) (xConst (.int 2))) (xConst (.int 0))) (xCall 1 F__law_two (aCons (x2 subD (xConst (.int 16)) (x2 ixD (x2 ixD (xVar 4) (xConst (.int 2))) (xConst (.int 1)))) (aNil)))) (aNil))))))
    (sSet 3 (x2 addD (xVar 3) (xLst (aCons (x2 ixD (xVar 4) (xConst (.int 3))) (aCons (x2 addD (x2 ixD (xVar 4) (xConst (.int 4))) (xConst (.int 1))) (aNil)))))))
def E2__law_corners : XF :=
    xVar 4
def E3__law_corners : XF :=
    xVar 4
def E4__law_corners : XF :=
    xVar 4
def E5__law_corners : XF :=
    xTup (aCons (xVar 6) (aCons (xVar 7) (aCons (xVar 8) (aNil))))
def Y6__law_corners : SF :=
    sSet 5 (x2 addD (xVar 5) (xComp (iSeq (xSortSetI (xComp (iSeq (xVar 3)) (gN 4) (tst (x2 ltD (xVar 4) (xConst (.int 256)))) (E4__law_corners) [4]))) (gN 8) (tTrue) (E5__law_corners) [8]))
def Y7__law_corners : SF :=
    sFor (iSeq (xSortSetI (xComp (iSeq (xVar 2)) (gN 4) (tst (x2 ltD (xVar 4) (xConst (.int 65536)))) (E3__law_corners) [4]))) (gN 7) (Y6__law_corners)
def B__law_corners : SF :=
    sSeq (sSet 1 (xLst (aCons (xConst (.int 0)) (aNil))))
    (sSeq (sSet 2 (xLst (aCons (xConst (.int 0)) (aNil))))
    (sSeq (sSet 3 (xLst (aCons (xConst (.int 0)) (aNil))))
    (sSeq (sFor (iSeq (xVar 0)) (gN 4) (Y1__law_corners))
    (sSeq (sSet 5 (xLst (aNil)))
    (sSeq (sFor (iSeq (xSortSetI (xComp (iSeq (xVar 1)) (gN 4) (tst (x2 ltD (xVar 4) (xConst (.int 65536)))) (E2__law_corners) [4]))) (gN 6) (Y7__law_corners))
    (sRet (xVar 5)))))))
def F__law_corners : FD := runB 9 B__law_corners
abbrev st_is_rule : Stmt := topS 15
abbrev N_is_rule : List Str := ["told", "word", "sources", "targets", "least", "most"]
abbrev P_is_rule : List Str := ["told"]
theorem S_is_rule : FnScope N_is_rule P_is_rule (defScope st_is_rule) := ⟨rfl, rfl, rfl, by decide +kernel, rfl, by decide +kernel, by decide +kernel⟩
def B_is_rule : SF :=
    sSeq (sAsg (gT (glCons (gN 1) (glCons (gN 2) (glCons (gN 3) (glCons (gN 4) (glCons (gN 5) (glNil))))))) (xVar 0))
    (sRet (xBool (tAndF (tst (x2 inD (xVar 1) (xConst (.tuple ((["let", "bar"] : List Str).map .str))))) (tAndF (tst (xCall 1 F_is_prefix (aCons (xVar 2) (aNil)))) (tAndF (tst (xCall 1 F_is_prefix (aCons (xVar 3) (aNil)))) (tst (xChainN (xConst (.int 0)) (chainR leD (xVar 4) (chainR leD (xVar 5) (chainE ltD (xConst (.int 256))))))))))))
def F_is_rule : FD := runB 6 B_is_rule
abbrev st_fits : Stmt := topS 17
abbrev N_fits : List Str := ["told", "source", "target", "mark"]
abbrev P_fits : List Str := ["told", "source", "target", "mark"]
theorem S_fits : FnScope N_fits P_fits (defScope st_fits) := ⟨rfl, rfl, rfl, by decide +kernel, rfl, by decide +kernel, by decide +kernel⟩
def B_fits : SF :=
    sRet (xBool (tAndF (tst (xCall 2 F_holds (aCons (x2 ixD (xVar 0) (xConst (.int 1))) (aCons (xVar 1) (aNil))))) (tAndF (tst (xCall 2 F_holds (aCons (x2 ixD (xVar 0) (xConst (.int 2))) (aCons (xVar 2) (aNil))))) (tst (xChain leD leD (x2 ixD (xVar 0) (xConst (.int 3))) (xVar 3) (x2 ixD (xVar 0) (xConst (.int 4))))))))
def F_fits : FD := runB 4 B_fits
abbrev st_corners : Stmt := topS 22
abbrev N_corners : List Str := ["rules", "sources", "targets", "told"]
abbrev P_corners : List Str := ["rules"]
theorem S_corners : FnScope N_corners P_corners (defScope st_corners) := ⟨rfl, rfl, rfl, by decide +kernel, rfl, by decide +kernel, by decide +kernel⟩
def E1_corners : XF :=
    xCall 1 F_span (aCons (x2 ixD (xVar 3) (xConst (.int 1))) (aNil))
def E2_corners : XF :=
    xCall 1 F_span (aCons (x2 ixD (xVar 3) (xConst (.int 2))) (aNil))
def E3_corners : XF :=
    xTup (aCons (x2 ixD (xVar 3) (xConst (.int 3))) (aCons (x2 ixD (xVar 3) (xConst (.int 4))) (aNil)))
def B_corners : SF :=
    sSeq (sSet 1 (xCall 2 F_starts (aCons (xComp (iSeq (xVar 0)) (gN 3) (tTrue) (E1_corners) [3]) (aCons (xConst (.int 65536)) (aNil)))))
    (sSeq (sSet 2 (xCall 2 F_starts (aCons (xComp (iSeq (xVar 0)) (gN 3) (tTrue) (E2_corners) [3]) (aCons (xConst (.int 65536)) (aNil)))))
    (sRet (xTup (aCons (xVar 1) (aCons (xVar 2) (aCons (xCall 2 F_starts (aCons (xComp (iSeq (xVar 0)) (gN 3) (tTrue) (E3_corners) [3]) (aCons (xConst (.int 256)) (aNil)))) (aNil)))))))
def F_corners : FD := runB 4 B_corners
abbrev st__law_passes : Stmt := topS 35
abbrev N__law_passes : List Str := ["rules", "source", "target", "mark", "good", "one"]
abbrev P__law_passes : List Str := ["rules", "source", "target", "mark"]
theorem S__law_passes : FnScope N__law_passes P__law_passes (defScope st__law_passes) := ⟨rfl, rfl, rfl, by decide +kernel, rfl, by decide +kernel, by decide +kernel⟩
def E1__law_passes : XF :=
    xVar 5
def B__law_passes : SF :=
    sSeq (sSet 4 (xComp (iSeq (xVar 0)) (gN 5) (tAndF (tst (xCall 2 F__law_holds (aCons (x2 ixD (xVar 5) (xConst (.int 1))) (aCons (xVar 1) (aNil))))) (tAndF (tst (xCall 2 F__law_holds (aCons (x2 ixD (xVar 5) (xConst (.int 2))) (aCons (xVar 2) (aNil))))) (tst (xChain leD leD (x2 ixD (xVar 5) (xConst (.int 3))) (xVar 3) (x2 ixD (xVar 5) (xConst (.int 4))))))) (E1__law_passes) [5]))
    (sRet (xBool (tOrF (tst (x2 eqD (xVar 4) (xLst (aNil)))) (tst (x2 eqD (x2 ixD (x2 ixD (xVar 4) (xConst (.int 0))) (xConst (.int 0))) (xConst (.str "let")))))))
def F__law_passes : FD := runB 6 B__law_passes
abbrev st_check_rules : Stmt := topS 16
abbrev N_check_rules : List Str := ["rules", "k", "told"]
abbrev P_check_rules : List Str := ["rules"]
theorem S_check_rules : FnScope N_check_rules P_check_rules (defScope st_check_rules) := ⟨rfl, rfl, rfl, by decide +kernel, rfl, by decide +kernel, by decide +kernel⟩
def Y1_check_rules : SF :=
    sIf (tNotF (tst (xCall 1 F_is_rule (aCons (xVar 2) (aNil))))) (sRaise "BadRule" (xVar 1)) (sNext)
def B_check_rules : SF :=
    sSeq (sIf (tst (x2 gtD (xn lenD (aCons (xVar 0) (aNil))) (xConst (.int 20)))) (sRaise "TooMany" (xn lenD (aCons (xVar 0) (aNil)))) (sNext))
    (sFor (iArgs enumD (aCons (xVar 0) (aNil))) (gT (glCons (gN 1) (glCons (gN 2) (glNil)))) (Y1_check_rules))
def F_check_rules : FD := runB 3 B_check_rules
abbrev st_first_fit : Stmt := topS 18
abbrev N_first_fit : List Str := ["rules", "source", "target", "mark", "found", "k", "told"]
abbrev P_first_fit : List Str := ["rules", "source", "target", "mark"]
theorem S_first_fit : FnScope N_first_fit P_first_fit (defScope st_first_fit) := ⟨rfl, rfl, rfl, by decide +kernel, rfl, by decide +kernel, by decide +kernel⟩
def E1_first_fit : XF :=
    xVar 5
def B_first_fit : SF :=
    sSeq (sSet 4 (xComp (iArgs enumD (aCons (xVar 0) (aNil))) (gT (glCons (gN 5) (glCons (gN 6) (glNil)))) (tst (xCall 4 F_fits (aCons (xVar 6) (aCons (xVar 1) (aCons (xVar 2) (aCons (xVar 3) (aNil))))))) (E1_first_fit) [5, 6]))
    (sRet (xIf (tst (x2 gtD (xn lenD (aCons (xVar 4) (aNil))) (xConst (.int 0)))) (x2 ixD (xVar 4) (xConst (.int 0))) (xConst .none)))
def F_first_fit : FD := runB 7 B_first_fit
abbrev st_triples_of : Stmt := topS 23
abbrev N_triples_of : List Str := ["rules", "sources", "targets", "marks", "source", "target", "mark"]
abbrev P_triples_of : List Str := ["rules"]
theorem S_triples_of : FnScope N_triples_of P_triples_of (defScope st_triples_of) := ⟨rfl, rfl, rfl, by decide +kernel, rfl, by decide +kernel, by decide +kernel⟩
def E1_triples_of : XF :=
    xTup (aCons (xVar 4) (aCons (xVar 5) (aCons (xVar 6) (aNil))))
def B_triples_of : SF :=
    sSeq (sAsg (gT (glCons (gN 1) (glCons (gN 2) (glCons (gN 3) (glNil))))) (xCall 1 F_corners (aCons (xVar 0) (aNil))))
    (sRet (xCompN (iSeq (xVar 1)) (gN 4) (tTrue) (⟨iSeq (xVar 2), gN 5, tTrue, [5], [5, 6]⟩ :: ⟨iSeq (xVar 3), gN 6, tTrue, [6], [6]⟩ :: []) (E1_triples_of) [4, 5, 6]))
def F_triples_of : FD := runB 7 B_triples_of
abbrev st__law_unlike : Stmt := topS 37
abbrev N__law_unlike : List Str := ["one", "two", "triple"]
abbrev P__law_unlike : List Str := ["one", "two"]
theorem S__law_unlike : FnScope N__law_unlike P__law_unlike (defScope st__law_unlike) := ⟨rfl, rfl, rfl, by decide +kernel, rfl, by decide +kernel, by decide +kernel⟩
def Y1__law_unlike : SF :=
    sIf (tst (x2 neD (xCall 4 F__law_passes (aCons (xVar 0) (aCons (x2 ixD (xVar 2) (xConst (.int 0))) (aCons (x2 ixD (xVar 2) (xConst (.int 1))) (aCons (x2 ixD (xVar 2) (xConst (.int 2))) (aNil)))))) (xCall 4 F__law_passes (aCons (xVar 1) (aCons (x2 ixD (xVar 2) (xConst (.int 0))) (aCons (x2 ixD (xVar 2) (xConst (.int 1))) (aCons (x2 ixD (xVar 2) (xConst (.int 2))) (aNil)))))))) (sRet (xVar 2)) (sNext)
def B__law_unlike : SF :=
    sSeq (sFor (iSeq (xCall 1 F__law_corners (aCons (x2 addD (xVar 0) (xVar 1)) (aNil)))) (gN 2) (Y1__law_unlike))
    (sRet (xConst .none))
def F__law_unlike : FD := runB 3 B__law_unlike
abbrev st_passes : Stmt := topS 19
abbrev N_passes : List Str := ["rules", "source", "target", "mark", "k"]
abbrev P_passes : List Str := ["rules", "source", "target", "mark"]
theorem S_passes : FnScope N_passes P_passes (defScope st_passes) := ⟨rfl, rfl, rfl, by decide +kernel, rfl, by decide +kernel, by decide +kernel⟩
def B_passes : SF :=
    sSeq (sSet 4 (xCall 4 F_first_fit (aCons (xVar 0) (aCons (xVar 1) (aCons (xVar 2) (aCons (xVar 3) (aNil)))))))
    (sRet (xBool (tOrF (tst (x1 isN (xVar 4))) (tst (x2 eqD (x2 ixD (x2 ixD (xVar 0) (xVar 4)) (xConst (.int 0))) (xConst (.str "let")))))))
def F_passes : FD := runB 5 B_passes
abbrev st_never_fits : Stmt := topS 24
abbrev N_never_fits : List Str := ["rules", "told", "k", "source", "target", "mark"]
abbrev P_never_fits : List Str := ["rules"]
theorem S_never_fits : FnScope N_never_fits P_never_fits (defScope st_never_fits) := ⟨rfl, rfl, rfl, by decide +kernel, rfl, by decide +kernel, by decide +kernel⟩
def E1_never_fits : XF :=
    xCall 4 F_first_fit (aCons (xVar 0) (aCons (xVar 3) (aCons (xVar 4) (aCons (xVar 5) (aNil)))))
def E2_never_fits : XF :=
    xVar 2
def B_never_fits : SF :=
    sSeq (sDrop (xCall 1 F_check_rules (aCons (xVar 0) (aNil))))
    (sSeq (sSet 1 (xComp (iSeq (xCall 1 F_triples_of (aCons (xVar 0) (aNil)))) (gT (glCons (gN 3) (glCons (gN 4) (glCons (gN 5) (glNil))))) (tTrue) (E1_never_fits) [3, 4, 5]))
    (sRet (xComp (iArgs rng1 (aCons (xn lenD (aCons (xVar 0) (aNil))) (aNil))) (gN 2) (tst (x2 ninD (xVar 2) (xVar 1))) (E2_never_fits) [2])))
def F_never_fits : FD := runB 6 B_never_fits
abbrev st_lets : Stmt := topS 20
abbrev N_lets : List Str := ["rules", "source", "target", "mark"]
abbrev P_lets : List Str := ["rules", "source", "target", "mark"]
theorem S_lets : FnScope N_lets P_lets (defScope st_lets) := ⟨rfl, rfl, rfl, by decide +kernel, rfl, by decide +kernel, by decide +kernel⟩
def B_lets : SF :=
    sSeq (sDrop (xCall 1 F_check_rules (aCons (xVar 0) (aNil))))
    (sRet (xCall 4 F_passes (aCons (xVar 0) (aCons (xVar 1) (aCons (xVar 2) (aCons (xVar 3) (aNil)))))))
def F_lets : FD := runB 4 B_lets
abbrev st_parted : Stmt := topS 25
abbrev N_parted : List Str := ["one", "two", "source", "target", "mark"]
abbrev P_parted : List Str := ["one", "two"]
theorem S_parted : FnScope N_parted P_parted (defScope st_parted) := ⟨rfl, rfl, rfl, by decide +kernel, rfl, by decide +kernel, by decide +kernel⟩
def Y1_parted : SF :=
    sIf (tst (x2 neD (xCall 4 F_passes (aCons (xVar 0) (aCons (xVar 2) (aCons (xVar 3) (aCons (xVar 4) (aNil)))))) (xCall 4 F_passes (aCons (xVar 1) (aCons (xVar 2) (aCons (xVar 3) (aCons (xVar 4) (aNil)))))))) (sRet (xTup (aCons (xVar 2) (aCons (xVar 3) (aCons (xVar 4) (aNil)))))) (sNext)
def B_parted : SF :=
    sSeq (sFor (iSeq (xCall 1 F_triples_of (aCons (xLst (aStar (xVar 0) (aStar (xVar 1) (aNil)))) (aNil)))) (gT (glCons (gN 2) (glCons (gN 3) (glCons (gN 4) (glNil))))) (Y1_parted))
    (sRet (xConst .none))
def F_parted : FD := runB 5 B_parted
abbrev st_unlike : Stmt := topS 26
abbrev N_unlike : List Str := ["one", "two"]
abbrev P_unlike : List Str := ["one", "two"]
theorem S_unlike : FnScope N_unlike P_unlike (defScope st_unlike) := ⟨rfl, rfl, rfl, by decide +kernel, rfl, by decide +kernel, by decide +kernel⟩
def B_unlike : SF :=
    sSeq (sDrop (xCall 1 F_check_rules (aCons (xVar 0) (aNil))))
    (sSeq (sDrop (xCall 1 F_check_rules (aCons (xVar 1) (aNil))))
    (sRet (xCall 2 F_parted (aCons (xVar 0) (aCons (xVar 1) (aNil))))))
def F_unlike : FD := runB 2 B_unlike
abbrev st_needless : Stmt := topS 27
abbrev N_needless : List Str := ["rules", "k"]
abbrev P_needless : List Str := ["rules"]
theorem S_needless : FnScope N_needless P_needless (defScope st_needless) := ⟨rfl, rfl, rfl, by decide +kernel, rfl, by decide +kernel, by decide +kernel⟩
def E1_needless : XF :=
    xVar 1
def B_needless : SF :=
    sSeq (sDrop (xCall 1 F_check_rules (aCons (xVar 0) (aNil))))
    (sRet (xComp (iArgs rng1 (aCons (xn lenD (aCons (xVar 0) (aNil))) (aNil))) (gN 1) (tst (x1 isN (xCall 2 F_parted (aCons (xVar 0) (aCons (x2 addD (xSl (xVar 0) (pNo) (pAt (xVar 1))) (xSl (xVar 0) (pAt (x2 addD (xVar 1) (xConst (.int 1)))) (pNo))) (aNil)))))) (E1_needless) [1]))
def F_needless : FD := runB 2 B_needless
abbrev st_fewer : Stmt := topS 28
abbrev N_fewer : List Str := ["rules", "found", "k", "less"]
abbrev P_fewer : List Str := ["rules"]
theorem S_fewer : FnScope N_fewer P_fewer (defScope st_fewer) := ⟨rfl, rfl, rfl, by decide +kernel, rfl, by decide +kernel, by decide +kernel⟩
def Y1_fewer : SF :=
    sSeq (sSet 3 (x2 addD (xSl (xVar 1) (pNo) (pAt (xVar 2))) (xSl (xVar 1) (pAt (x2 addD (xVar 2) (xConst (.int 1)))) (pNo))))
    (sIf (tst (x1 isN (xCall 2 F_parted (aCons (xVar 1) (aCons (xVar 3) (aNil)))))) (sSet 1 (xVar 3)) (sNext))
def B_fewer : SF :=
    sSeq (sDrop (xCall 1 F_check_rules (aCons (xVar 0) (aNil))))
    (sSeq (sSet 1 (xn listD (aCons (xVar 0) (aNil))))
    (sSeq (sFor (iArgs rng3 (aCons (x2 subD (xn lenD (aCons (xVar 0) (aNil))) (xConst (.int 1))) (aCons (x1 negD (xConst (.int 1))) (aCons (x1 negD (xConst (.int 1))) (aNil))))) (gN 2) (Y1_fewer))
    (sRet (xVar 1))))
def F_fewer : FD := runB 4 B_fewer
abbrev st__law_fault : Stmt := topS 38
abbrev N__law_fault : List Str := ["way", "rules", "e"]
abbrev P__law_fault : List Str := ["way", "rules"]
theorem S__law_fault : FnScope N__law_fault P__law_fault (defScope st__law_fault) := ⟨rfl, rfl, rfl, by decide +kernel, rfl, by decide +kernel, by decide +kernel⟩
def B__law_fault : SF :=
    sSeq (sTry (sIf (tst (x2 eqD (xVar 0) (xConst (.int 0)))) (sDrop (xCall 4 F_lets (aCons (xVar 1) (aCons (xConst (.int 0)) (aCons (xConst (.int 0)) (aCons (xConst (.int 0)) (aNil))))))) (sIf (tst (x2 eqD (xVar 0) (xConst (.int 1)))) (sDrop (xCall 2 F_unlike (aCons (xLst (aNil)) (aCons (xVar 1) (aNil))))) (sDrop (xCallFs ((1, F_check_rules) :: (1, F_never_fits) :: (1, F_needless) :: (1, F_fewer) :: []) (x2 subD (xVar 0) (xConst (.int 2))) (aCons (xVar 1) (aNil)))))) (⟨2, ["BadRule"], ["TooMany"], fun d => .tuple [.str "rule", d]⟩ :: ⟨2, ["TooMany"], ["BadRule"], fun d => .tuple [.str "many", d]⟩ :: []))
    (sRet (xTup (aCons (xConst (.str "")) (aCons (xConst (.int 0)) (aNil)))))
def F__law_fault : FD := runB 3 B__law_fault
abbrev st_law : Stmt := topS 39
abbrev N_law : List Str := ["script", "draws", "rules", "kept", "corners_there", "first_ones", "t", "free", "some", "k", "other", "good", "way", "source", "target", "mark", "packet", "less", "bad"]
abbrev P_law : List Str := ["script"]
theorem S_law : FnScope N_law P_law (defScope st_law) := ⟨rfl, rfl, rfl, by decide +kernel, rfl, by decide +kernel, by decide +kernel⟩
def E1_law : XF :=
    xVar 9
def Y2_law : SF :=
    sSeq (sSet 11 (xComp (iArgs rng1 (aCons (xn lenD (aCons (xVar 2) (aNil))) (aNil))) (gN 9) (tAndF (tst (xCall 2 F__law_holds (aCons (x2 ixD (x2 ixD (xVar 2) (xVar 9)) (xConst (.int 1))) (aCons (xVar 13) (aNil))))) (tAndF (tst (xCall 2 F__law_holds (aCons (x2 ixD (x2 ixD (xVar 2) (xVar 9)) (xConst (.int 2))) (aCons (xVar 14) (aNil))))) (tst (xChain leD leD (x2 ixD (x2 ixD (xVar 2) (xVar 9)) (xConst (.int 3))) (xVar 15) (x2 ixD (x2 ixD (xVar 2) (xVar 9)) (xConst (.int 4))))))) (E1_law) [9]))
    (sSeq (sSet 5 (x2 addD (xVar 5) (xSl (xVar 11) (pNo) (pAt (xConst (.int 1))))))
    (sIf (tst (x2 neD (xn reprD (aCons (xCall 4 F_lets (aCons (xVar 2) (aCons (xVar 13) (aCons (xVar 14) (aCons (xVar 15) (aNil)))))) (aNil))) (xn reprD (aCons (xCall 4 F__law_passes (aCons (xVar 2) (aCons (xVar 13) (aCons (xVar 14) (aCons (xVar 15) (aNil)))))) (aNil))))) (sRet (xConst (.bool false))) (sNext)))
def Y3_law : SF :=
    sSeq (sSet 16 (xTup (aCons (xCall 3 F__law_mix (aCons (xVar 1) (aCons (x2 addD (xConst (.int 80)) (xVar 6)) (aCons (xConst (.int 65536)) (aNil))))) (aCons (xCall 3 F__law_mix (aCons (xVar 1) (aCons (x2 addD (xConst (.int 90)) (xVar 6)) (aCons (xConst (.int 65536)) (aNil))))) (aCons (xCall 3 F__law_mix (aCons (xVar 1) (aCons (x2 addD (xConst (.int 100)) (xVar 6)) (aCons (xConst (.int 256)) (aNil))))) (aNil))))))
    (sIf (tst (x2 neD (xn reprD (aCons (xCall 4 F_lets (aCons (xVar 2) (aCons (x2 ixD (xVar 16) (xConst (.int 0))) (aCons (x2 ixD (xVar 16) (xConst (.int 1))) (aCons (x2 ixD (xVar 16) (xConst (.int 2))) (aNil)))))) (aNil))) (xn reprD (aCons (xCall 4 F__law_passes (aCons (xVar 2) (aCons (x2 ixD (xVar 16) (xConst (.int 0))) (aCons (x2 ixD (xVar 16) (xConst (.int 1))) (aCons (x2 ixD (xVar 16) (xConst (.int 2))) (aNil)))))) (aNil))))) (sRet (xConst (.bool false))) (sNext))
def E4_law : XF :=
    xVar 9
def E5_law : XF :=
    xVar 9
def Y6_law : SF :=
    sSeq (sSet 17 (x2 addD (xSl (xVar 8) (pNo) (pAt (xVar 9))) (xSl (xVar 8) (pAt (x2 addD (xVar 9) (xConst (.int 1)))) (pNo))))
    (sIf (tst (x1 isN (xCall 2 F__law_unlike (aCons (xVar 8) (aCons (xVar 17) (aNil)))))) (sSet 8 (xVar 17)) (sNext))
def Y7_law : SF :=
    sIf (tst (x2 neD (xCall 2 F__law_fault (aCons (xVar 12) (aCons (xLst (aCons (xVar 11) (aCons (xVar 18) (aNil)))) (aNil)))) (xTup (aCons (xConst (.str "rule")) (aCons (xConst (.int 1)) (aNil)))))) (sRet (xConst (.bool false))) (sNext)
def Y8_law : SF :=
    sSeq (sIf (tst (x2 neD (xCall 2 F__law_fault (aCons (xVar 12) (aCons (x2 mulD (xLst (aCons (xVar 11) (aNil))) (xConst (.int 21))) (aNil)))) (xTup (aCons (xConst (.str "many")) (aCons (xConst (.int 21)) (aNil)))))) (sRet (xConst (.bool false))) (sNext))
    (sFor (iSeq (xLst (aCons (xTup (aCons (xConst (.str "lets")) (aCons (xTup (aCons (xConst (.int 0)) (aCons (xConst (.int 0)) (aNil)))) (aCons (xTup (aCons (xConst (.int 0)) (aCons (xConst (.int 0)) (aNil)))) (aCons (xConst (.int 0)) (aCons (xConst (.int 255)) (aNil))))))) (aCons (xTup (aCons (xConst (.str "let")) (aCons (xTup (aCons (xConst (.int 1)) (aCons (xConst (.int 0)) (aNil)))) (aCons (xTup (aCons (xConst (.int 0)) (aCons (xConst (.int 0)) (aNil)))) (aCons (xConst (.int 0)) (aCons (xConst (.int 255)) (aNil))))))) (aCons (xTup (aCons (xConst (.str "let")) (aCons (xTup (aCons (xConst (.int 0)) (aCons (xConst (.int 0)) (aNil)))) (aCons (xTup (aCons (xConst (.int 0)) (aCons (xConst (.int 17)) (aNil)))) (aCons (xConst (.int 0)) (aCons (xConst (.int 255)) (aNil))))))) (aCons (xTup (aCons (xConst (.str "let")) (aCons (xTup (aCons (xConst (.int 0)) (aCons (xConst (.int 0)) (aNil)))) (aCons (xTup (aCons (xConst (.int 0)) (aCons (xConst (.int 0)) (aNil)))) (aCons (xConst (.int 5)) (aCons (xConst (.int 4)) (aNil))))))) (aCons (xTup (aCons (xConst (.str "bar")) (aCons (xTup (aCons (xConst (.int 0)) (aCons (xConst (.int 0)) (aNil)))) (aCons (xTup (aCons (xConst (.int 0)) (aCons (xConst (.int 0)) (aNil)))) (aCons (xConst (.int 0)) (aCons (xConst (.int 256)) (aNil))))))) (aNil)))))))) (gN 18) (Y7_law))
def B_law : SF :=
    sSeq (sSet 1 (xCallS 0 F__law_draws))
    (sSeq (sSet 2 (xCall 3 F__law_rules (aCons (xVar 1) (aCons (xConst (.int 10)) (aCons (xConst (.int 6)) (aNil))))))
    (sSeq (sSet 3 (xn reprD (aCons (xVar 2) (aNil))))
    (sSeq (sSet 4 (xCall 1 F__law_corners (aCons (xVar 2) (aNil))))
    (sSeq (sSet 5 (xLst (aNil)))
    (sSeq (sFor (iSeq (xVar 4)) (gT (glCons (gN 13) (glCons (gN 14) (glCons (gN 15) (glNil))))) (Y2_law))
    (sSeq (sFor (iArgs rng1 (aCons (xConst (.int 4)) (aNil))) (gN 6) (Y3_law))
    (sSeq (sSet 7 (xComp (iArgs rng1 (aCons (xn lenD (aCons (xVar 2) (aNil))) (aNil))) (gN 9) (tst (x1 isN (xCall 2 F__law_unlike (aCons (xVar 2) (aCons (x2 addD (xSl (xVar 2) (pNo) (pAt (xVar 9))) (xSl (xVar 2) (pAt (x2 addD (xVar 9) (xConst (.int 1)))) (pNo))) (aNil)))))) (E4_law) [9]))
    (sSeq (sIf (tOrF (tst (x2 neD (xn reprD (aCons (xCall 1 F_never_fits (aCons (xVar 2) (aNil))) (aNil))) (xn reprD (aCons (xComp (iArgs rng1 (aCons (xn lenD (aCons (xVar 2) (aNil))) (aNil))) (gN 9) (tst (x2 ninD (xVar 9) (xVar 5))) (E5_law) [9]) (aNil))))) (tst (x2 neD (xn reprD (aCons (xCall 1 F_needless (aCons (xVar 2) (aNil))) (aNil))) (xn reprD (aCons (xVar 7) (aNil)))))) (sRet (xConst (.bool false))) (sNext))
    (sSeq (sSet 8 (xn listD (aCons (xVar 2) (aNil))))
    (sSeq (sFor (iArgs rng3 (aCons (x2 subD (xn lenD (aCons (xVar 2) (aNil))) (xConst (.int 1))) (aCons (x1 negD (xConst (.int 1))) (aCons (x1 negD (xConst (.int 1))) (aNil))))) (gN 9) (Y6_law))
    (sSeq (sIf (tOrF (tst (x2 neD (xn reprD (aCons (xCall 1 F_fewer (aCons (xVar 2) (aNil))) (aNil))) (xn reprD (aCons (xVar 8) (aNil))))) (tOrF (tst (x1 notN (xCall 2 F__law_unlike (aCons (xVar 2) (aCons (xVar 8) (aNil)))))) (tst (x1 notN (xCall 2 F_unlike (aCons (xVar 2) (aCons (xVar 8) (aNil)))))))) (sRet (xConst (.bool false))) (sNext))
    (sSeq (sSet 10 (xCall 3 F__law_rules (aCons (xVar 1) (aCons (xConst (.int 110)) (aCons (xConst (.int 5)) (aNil))))))
    (sSeq (sIf (tOrF (tst (x2 neD (xn reprD (aCons (xCall 2 F_unlike (aCons (xVar 2) (aCons (xVar 10) (aNil)))) (aNil))) (xn reprD (aCons (xCall 2 F__law_unlike (aCons (xVar 2) (aCons (xVar 10) (aNil)))) (aNil))))) (tst (x2 neD (xn reprD (aCons (xVar 2) (aNil))) (xVar 3)))) (sRet (xConst (.bool false))) (sNext))
    (sSeq (sSet 11 (xTup (aCons (xConst (.str "let")) (aCons (xTup (aCons (xConst (.int 0)) (aCons (xConst (.int 0)) (aNil)))) (aCons (xTup (aCons (xConst (.int 0)) (aCons (xConst (.int 0)) (aNil)))) (aCons (xConst (.int 0)) (aCons (xConst (.int 255)) (aNil))))))))
    (sSeq (sFor (iArgs rng1 (aCons (xConst (.int 6)) (aNil))) (gN 12) (Y8_law))
    (sRet (xBool (tAndF (tst (x2 isBD (xCall 4 F_lets (aCons (xLst (aNil)) (aCons (xConst (.int 5)) (aCons (xConst (.int 5)) (aCons (xConst (.int 5)) (aNil)))))) (xConst (.bool true)))) (tst (x2 isBD (xCall 4 F_lets (aCons (xLst (aCons (xTup (aCons (xConst (.str "bar")) (aCons (xTup (aCons (xConst (.int 0)) (aCons (xConst (.int 0)) (aNil)))) (aCons (xTup (aCons (xConst (.int 0)) (aCons (xConst (.int 0)) (aNil)))) (aCons (xConst (.int 0)) (aCons (xConst (.int 255)) (aNil))))))) (aNil))) (aCons (xConst (.int 5)) (aCons (xConst (.int 5)) (aCons (xConst (.int 5)) (aNil)))))) (xConst (.bool false))))))))))))))))))))))
def F_law : FS := runS 19 B_law
structure Zs (K : PySem.W.Frag) (mg : Str → Option Value) : Prop where
  z_range : mg "range" = none
  z_sorted : mg "sorted" = none
  z_set : mg "set" = none
  z_len : mg "len" = none
  z_min : mg "min" = none
  z_abs : mg "abs" = none
  z_int : mg "int" = none
  z_enumerate : mg "enumerate" = none
  z_list : mg "list" = none
  z_repr : mg "repr" = none
  m_BITS : ∃ t, mg "BITS" = some (.int 16 t)
  m_ADDRESSES : ∃ t, mg "ADDRESSES" = some (.int 65536 t)
  m_WORDS : ∃ t ob its n, mg "WORDS" = some (.ref t) ∧ K.lookup t = some ob ∧ ob.cls = .type "tuple" ∧ ob.data = .seq its n ∧ its.size ≤ sizeLine ∧ Vals ((["let", "bar"] : List Str).map V.str) its.toList
  m_MARKS : ∃ t, mg "MARKS" = some (.int 256 t)
  m_MOST_RULES : ∃ t, mg "MOST_RULES" = some (.int 20 t)
structure Es (P : Program) (K : PySem.W.Frag) (mg : Str → Option Value) (B f : Addr) : Prop where
  net : NetB P K mg B f
  c_TooMany : ∃ C, mg "TooMany" = some (.ref C) ∧ NetC K B f C
  c_BadRule : ∃ C, mg "BadRule" = some (.ref C) ∧ NetC K B f C
  x_TooMany_TooMany : ∀ D, mg "TooMany" = some (.ref D) → ∃ C, mg "TooMany" = some (.ref C) ∧ NetC K B f C ∧ PySem.W.exmOne K (.ref C) (.ref D) = some true
  x_BadRule_TooMany : ∀ D, mg "TooMany" = some (.ref D) → ∃ C, mg "BadRule" = some (.ref C) ∧ NetC K B f C ∧ PySem.W.exmOne K (.ref C) (.ref D) = some false
  x_BadRule_BadRule : ∀ D, mg "BadRule" = some (.ref D) → ∃ C, mg "BadRule" = some (.ref C) ∧ NetC K B f C ∧ PySem.W.exmOne K (.ref C) (.ref D) = some true
  x_TooMany_BadRule : ∀ D, mg "BadRule" = some (.ref D) → ∃ C, mg "TooMany" = some (.ref C) ∧ NetC K B f C ∧ PySem.W.exmOne K (.ref C) (.ref D) = some false
section
variable {P : Program} {w : World} {K : PySem.W.Frag} {mg : Str → Option Value} {base : Heap} {Bn fn : Addr}
theorem ok_width (Z : Zs K mg) (Er : Es P K mg Bn fn)  {f : Addr} {fd : FuncData} (Fn : Fun K "width" "width" st_width f fd) (hm : mg "width" = some (.ref f)) (hb : Binds K fd P_width []) : Def0 P w K mg base 1 "width" P_width F_width :=
  ⟨f, fd, fnG_pure Fn S_width (fun ds _ => rfl) (fun cdv A outer s H E hr hq =>
    have hu := hr.units
    es_seq (es_set (i := 1) S_width.nd rfl (by first | exact .inl rfl | exact .inr rfl) (ex_int))
      (es_seq (es_for (vs := [2]) PassesOwn.leaving rfl (ei_rng1 rfl Z.z_range (ea_cons (ex_bin op_subD ((by obtain ⟨t, ht⟩ := Z.m_BITS; exact ex_globI rfl ht)) (ex_var (pv 0))) (ea_nil))) (eg_name (i := 2) S_width.nd rfl (by first | exact .inl rfl | exact .inr rfl)) (es_one (es_set (i := 1) S_width.nd rfl (by first | exact .inl rfl | exact .inr rfl) (ex_bin op_mulD (ex_int) (ex_var (pv 1))))))
      (es_one (es_ret (ex_var (pv 1)))))), hm, Fn.kp, hb⟩
theorem ok_starts (Z : Zs K mg) (Er : Es P K mg Bn fn)  {f : Addr} {fd : FuncData} (Fn : Fun K "starts" "starts" st_starts f fd) (hm : mg "starts" = some (.ref f)) (hb : Binds K fd P_starts []) : Def0 P w K mg base 1 "starts" P_starts F_starts :=
  ⟨f, fd, fnG_pure Fn S_starts (fun ds _ => rfl) (fun cdv A outer s H E hr hq =>
    have hu := hr.units
    es_seq (es_own (i := 2) S_starts.nd rfl (by first | exact .inl rfl | exact .inr rfl) (en_lst (ea_cons (ex_int) (ea_nil))))
      (es_seq (es_for (vs := [3, 4]) PassesOwn.leaving rfl (ei_seq (ex_var (pv 0))) (eg_tup rfl (egs_cons (eg_name (i := 3) S_starts.nd rfl (by first | exact .inl rfl | exact .inr rfl)) (egs_cons (eg_name (i := 4) S_starts.nd rfl (by first | exact .inl rfl | exact .inr rfl)) (egs_nil))) (glCons_len (glCons_len (glNil_len)))) (es_one (es_drop (ex_mutL PySem.F.slot_list_extend PySem.F.type_list_extend mt_extend mut_ext (pv 2) (ea_cons (EN.ex (en_lst (ea_cons (ex_var (pv 3)) (ea_cons (ex_bin op_addD (ex_var (pv 4)) (ex_int)) (ea_nil))))) (ea_nil))))))
      (es_one (es_ret (EN.ex (en_sortSetI rfl rfl Z.z_sorted rfl Z.z_set (EN.ex (en_comp rfl S_starts.nd (own := [("number", 5)]) (ei_seq (ex_var (pv 2))) (blkOk_by (own := [("number", 5)]) (N := N_starts) (sc := defScope st_starts) (by decide +kernel)) (us := [5]) (by decide) (fun _ _ _ _ _ => eg_name (i := 5) S_starts.nd rfl (by first | exact .inl rfl | exact .inr rfl)) (fun _ _ _ _ _ => eq_one (et_cmp (op_ltD hu) (ex_var (pv 5)) (ex_var (pv 1)))) (fun _ _ _ _ _ => ex_var (pv 5)))))))))), hm, Fn.kp, hb⟩
theorem ok__law_draws (Z : Zs K mg) (Er : Es P K mg Bn fn)  {f : Addr} {fd : FuncData} (Fn : Fun K "_law_draws" "_law_draws" st__law_draws f fd) (hm : mg "_law_draws" = some (.ref f)) (hb : Binds K fd P__law_draws []) : DefS P w K mg base 1 "_law_draws" P__law_draws F__law_draws :=
  ⟨f, fd, fnG_script Fn S__law_draws rfl (by decide) (fun cdv A outer s H E hr hq =>
    have hu := hr.units
    es_seq (es_own (i := 1) S__law_draws.nd rfl (by first | exact .inl rfl | exact .inr rfl) (en_lst (ea_nil)))
      (es_seq (es_for (vs := [2]) PassesOwn.leaving rfl (ei_rng1 rfl Z.z_range (ea_cons (ex_blt (cr_min2 rfl) rfl Z.z_min rfl (ea_cons (ex_int) (ea_cons (ex_lenS (pv 0) rfl Z.z_len) (ea_nil)))) (ea_nil))) (eg_name (i := 2) S__law_draws.nd rfl (by first | exact .inl rfl | exact .inr rfl)) (es_seq (es_set (i := 3) S__law_draws.nd rfl (by first | exact .inl rfl | exact .inr rfl) (ex_blt cr_abs rfl Z.z_abs rfl (ea_cons (ex_atS (pv 0) (ex_var (pv 2)) (fun _ _ => rfl)) (ea_nil))))
      (es_one (es_if (et_cmp (op_geD hu) (ex_var (pv 3)) (ex_bin op_powD (ex_int) (ex_int))) (es_one (es_for (vs := [4]) PassesOwn.leaving rfl (ei_rng1 rfl Z.z_range (ea_cons (ex_int) (ea_nil))) (eg_name (i := 4) S__law_draws.nd rfl (by first | exact .inl rfl | exact .inr rfl)) (es_one (es_if (et_cmp (op_gtD hu) (ex_var (pv 3)) (ex_int)) (es_seq (es_drop (ex_mutL PySem.F.slot_list_append PySem.F.type_list_append mt_append mut_app (pv 1) (ea_cons (ex_bin op_modD (ex_bty cr_int rfl Z.z_int rfl (ea_cons (ex_var (pv 3)) (ea_nil))) (ex_int)) (ea_nil))))
      (es_one (es_set (i := 3) S__law_draws.nd rfl (by first | exact .inl rfl | exact .inr rfl) (ex_bin op_fdivD (ex_var (pv 3)) (ex_int))))) (es_nil))))) (es_seq (es_set (i := 5) S__law_draws.nd rfl (by first | exact .inl rfl | exact .inr rfl) (ex_bin op_modD (ex_bty cr_int rfl Z.z_int rfl (ea_cons (ex_bin op_addD (ex_bin op_mulD (ex_var (pv 3)) (ex_int)) (ex_bin op_mulD (ex_bin op_addD (ex_var (pv 2)) (ex_int)) (ex_int))) (ea_nil))) (ex_int)))
      (es_seq (es_set (i := 5) S__law_draws.nd rfl (by first | exact .inl rfl | exact .inr rfl) (ex_bin op_modD (ex_bty cr_int rfl Z.z_int rfl (ea_cons (ex_bin op_addD (ex_bin op_addD (ex_bin op_mulD (ex_var (pv 5)) (ex_int)) (ex_bin op_mulD (ex_int) (ex_var (pv 2)))) (ex_int)) (ea_nil))) (ex_int)))
      (es_seq (es_drop (ex_mutL PySem.F.slot_list_append PySem.F.type_list_append mt_append mut_app (pv 1) (ea_cons (ex_bin op_modD (ex_bty cr_int rfl Z.z_int rfl (ea_cons (ex_var (pv 5)) (ea_nil))) (ex_int)) (ea_nil))))
      (es_one (es_drop (ex_mutL PySem.F.slot_list_append PySem.F.type_list_append mt_append mut_app (pv 1) (ea_cons (ex_bin op_modD (ex_bty cr_int rfl Z.z_int rfl (ea_cons (ex_bin op_fdivD (ex_var (pv 5)) (ex_int)) (ea_nil))) (ex_int)) (ea_nil))))))))))))
      (es_one (es_ret (ex_var (pv 1)))))), hm, Fn.kp, hb⟩
theorem ok__law_mix (Z : Zs K mg) (Er : Es P K mg Bn fn)  {f : Addr} {fd : FuncData} (Fn : Fun K "_law_mix" "_law_mix" st__law_mix f fd) (hm : mg "_law_mix" = some (.ref f)) (hb : Binds K fd P__law_mix []) : Def0 P w K mg base 1 "_law_mix" P__law_mix F__law_mix :=
  ⟨f, fd, fnG_pure Fn S__law_mix (fun ds _ => rfl) (fun cdv A outer s H E hr hq =>
    have hu := hr.units
    es_seq (es_set (i := 3) S__law_mix.nd rfl (by first | exact .inl rfl | exact .inr rfl) (ex_int))
      (es_seq (es_if (et_cmp (op_gtD hu) (ex_blt cr_lenD rfl Z.z_len rfl (ea_cons (ex_var (pv 0)) (ea_nil))) (ex_int)) (es_one (es_set (i := 3) S__law_mix.nd rfl (by first | exact .inl rfl | exact .inr rfl) (ex_ix hu (ex_var (pv 0)) (ex_bin op_modD (ex_bty cr_int rfl Z.z_int rfl (ea_cons (ex_var (pv 1)) (ea_nil))) (ex_blt cr_lenD rfl Z.z_len rfl (ea_cons (ex_var (pv 0)) (ea_nil)))) (fun _ _ => rfl)))) (es_nil))
      (es_seq (es_if (et_cmp (op_ltD hu) (ex_var (pv 1)) (ex_blt cr_lenD rfl Z.z_len rfl (ea_cons (ex_var (pv 0)) (ea_nil)))) (es_one (es_ret (ex_bin op_modD (ex_bty cr_int rfl Z.z_int rfl (ea_cons (ex_var (pv 3)) (ea_nil))) (ex_var (pv 2))))) (es_nil))
      (es_one (es_ret (ex_bin op_modD (ex_bty cr_int rfl Z.z_int rfl (ea_cons (ex_bin op_fdivD (ex_bty cr_int rfl Z.z_int rfl (ea_cons (ex_bin op_addD (ex_bin op_mulD (ex_var (pv 3)) (ex_int)) (ex_bin op_mulD (ex_var (pv 1)) (ex_int))) (ea_nil))) (ex_int)) (ea_nil))) (ex_var (pv 2)))))))), hm, Fn.kp, hb⟩
theorem ok__law_two (Z : Zs K mg) (Er : Es P K mg Bn fn)  {f : Addr} {fd : FuncData} (Fn : Fun K "_law_two" "_law_two" st__law_two f fd) (hm : mg "_law_two" = some (.ref f)) (hb : Binds K fd P__law_two []) : Def0 P w K mg base 1 "_law_two" P__law_two F__law_two :=
  ⟨f, fd, fnG_pure Fn S__law_two (fun ds _ => rfl) (fun cdv A outer s H E hr hq =>
    have hu := hr.units
    es_seq (es_set (i := 1) S__law_two.nd rfl (by first | exact .inl rfl | exact .inr rfl) (ex_int))
      (es_seq (es_for (vs := [2]) PassesOwn.leaving rfl (ei_rng1 rfl Z.z_range (ea_cons (ex_var (pv 0)) (ea_nil))) (eg_name (i := 2) S__law_two.nd rfl (by first | exact .inl rfl | exact .inr rfl)) (es_one (es_set (i := 1) S__law_two.nd rfl (by first | exact .inl rfl | exact .inr rfl) (ex_bin op_mulD (ex_int) (ex_var (pv 1))))))
      (es_one (es_ret (ex_var (pv 1)))))), hm, Fn.kp, hb⟩
theorem ok_is_prefix (Z : Zs K mg) (Er : Es P K mg Bn fn) (d_width : Def0 P w K mg base 1 "width" P_width F_width) {f : Addr} {fd : FuncData} (Fn : Fun K "is_prefix" "is_prefix" st_is_prefix f fd) (hm : mg "is_prefix" = some (.ref f)) (hb : Binds K fd P_is_prefix []) : Def0 P w K mg base 2 "is_prefix" P_is_prefix F_is_prefix :=
  ⟨f, fd, fnG_pure Fn S_is_prefix (fun ds _ => rfl) (fun cdv A outer s H E hr hq =>
    have hu := hr.units
    es_seq (es_asg (vs := [1, 2]) (ex_var (pv 0)) (eg_tup rfl (egs_cons (eg_name (i := 1) S_is_prefix.nd rfl (by first | exact .inl rfl | exact .inr rfl)) (egs_cons (eg_name (i := 2) S_is_prefix.nd rfl (by first | exact .inl rfl | exact .inr rfl)) (egs_nil))) (glCons_len (glCons_len (glNil_len)))))
      (es_one (es_ret (ex_and (ex_chain (op_leD hu) (op_leD hu) (ex_int) (ex_var (pv 2)) ((by obtain ⟨t, ht⟩ := Z.m_BITS; exact ex_globI rfl ht))) (ex_and (ex_chain (op_leD hu) (op_ltD hu) (ex_int) (ex_var (pv 1)) ((by obtain ⟨t, ht⟩ := Z.m_ADDRESSES; exact ex_globI rfl ht))) (ex_one (ex_cmp (op_eqD' hu) (ex_bin op_modD (ex_var (pv 1)) (ex_callD (ps := P_width) d_width hr (by decide) hq rfl (takes_of rfl rfl rfl rfl) (ea_cons (ex_var (pv 2)) (ea_nil)))) (ex_int)))))))), hm, Fn.kp, hb⟩
theorem ok_span (Z : Zs K mg) (Er : Es P K mg Bn fn) (d_width : Def0 P w K mg base 1 "width" P_width F_width) {f : Addr} {fd : FuncData} (Fn : Fun K "span" "span" st_span f fd) (hm : mg "span" = some (.ref f)) (hb : Binds K fd P_span []) : Def0 P w K mg base 2 "span" P_span F_span :=
  ⟨f, fd, fnG_pure Fn S_span (fun ds _ => rfl) (fun cdv A outer s H E hr hq =>
    have hu := hr.units
    es_one (es_ret (ex_tup (ea_cons (ex_ix hu (ex_var (pv 0)) (ex_int) (fun _ _ => rfl)) (ea_cons (ex_bin op_subD (ex_bin op_addD (ex_ix hu (ex_var (pv 0)) (ex_int) (fun _ _ => rfl)) (ex_callD (ps := P_width) d_width hr (by decide) hq rfl (takes_of rfl rfl rfl rfl) (ea_cons (ex_ix hu (ex_var (pv 0)) (ex_int) (fun _ _ => rfl)) (ea_nil)))) (ex_int)) (ea_nil)))))), hm, Fn.kp, hb⟩
theorem ok_holds (Z : Zs K mg) (Er : Es P K mg Bn fn) (d_width : Def0 P w K mg base 1 "width" P_width F_width) {f : Addr} {fd : FuncData} (Fn : Fun K "holds" "holds" st_holds f fd) (hm : mg "holds" = some (.ref f)) (hb : Binds K fd P_holds []) : Def0 P w K mg base 2 "holds" P_holds F_holds :=
  ⟨f, fd, fnG_pure Fn S_holds (fun ds _ => rfl) (fun cdv A outer s H E hr hq =>
    have hu := hr.units
    es_one (es_ret (ex_chain (op_leD hu) (op_ltD hu) (ex_ix hu (ex_var (pv 0)) (ex_int) (fun _ _ => rfl)) (ex_var (pv 1)) (ex_bin op_addD (ex_ix hu (ex_var (pv 0)) (ex_int) (fun _ _ => rfl)) (ex_callD (ps := P_width) d_width hr (by decide) hq rfl (takes_of rfl rfl rfl rfl) (ea_cons (ex_ix hu (ex_var (pv 0)) (ex_int) (fun _ _ => rfl)) (ea_nil))))))), hm, Fn.kp, hb⟩
theorem ok__law_holds (Z : Zs K mg) (Er : Es P K mg Bn fn) (d__law_two : Def0 P w K mg base 1 "_law_two" P__law_two F__law_two) {f : Addr} {fd : FuncData} (Fn : Fun K "_law_holds" "_law_holds" st__law_holds f fd) (hm : mg "_law_holds" = some (.ref f)) (hb : Binds K fd P__law_holds []) : Def0 P w K mg base 2 "_law_holds" P__law_holds F__law_holds :=
  ⟨f, fd, fnG_pure Fn S__law_holds (fun ds _ => rfl) (fun cdv A outer s H E hr hq =>
    have hu := hr.units
    es_seq (es_set (i := 2) S__law_holds.nd rfl (by first | exact .inl rfl | exact .inr rfl) (ex_callD (ps := P__law_two) d__law_two hr (by decide) hq rfl (takes_of rfl rfl rfl rfl) (ea_cons (ex_bin op_subD (ex_int) (ex_ix hu (ex_var (pv 0)) (ex_int) (fun _ _ => rfl))) (ea_nil))))
      (es_one (es_ret (ex_chain (op_leD hu) (op_ltD hu) (ex_ix hu (ex_var (pv 0)) (ex_int) (fun _ _ => rfl)) (ex_var (pv 1)) (ex_bin op_addD (ex_ix hu (ex_var (pv 0)) (ex_int) (fun _ _ => rfl)) (ex_var (pv 2))))))), hm, Fn.kp, hb⟩
theorem ok__law_rules (Z : Zs K mg) (Er : Es P K mg Bn fn) (d__law_mix : Def0 P w K mg base 1 "_law_mix" P__law_mix F__law_mix) (d__law_two : Def0 P w K mg base 1 "_law_two" P__law_two F__law_two) {f : Addr} {fd : FuncData} (Fn : Fun K "_law_rules" "_law_rules" st__law_rules f fd) (hm : mg "_law_rules" = some (.ref f)) (hb : Binds K fd P__law_rules []) : Def0 P w K mg base 2 "_law_rules" P__law_rules F__law_rules :=
  ⟨f, fd, fnG_pure Fn S__law_rules (fun ds _ => rfl) (fun cdv A outer s H E hr hq =>
    have hu := hr.units
    es_seq (es_own (i := 3) S__law_rules.nd rfl (by first | exact .inl rfl | exact .inr rfl) (en_lst (ea_nil)))
      (es_seq (es_for (vs := [4]) PassesOwn.leaving rfl (ei_rng1 rfl Z.z_range (ea_cons (ex_callD (ps := P__law_mix) d__law_mix hr (by decide) hq rfl (takes_of rfl rfl rfl rfl) (ea_cons (ex_var (pv 0)) (ea_cons (ex_var (pv 1)) (ea_cons (ex_bin op_addD (ex_var (pv 2)) (ex_int)) (ea_nil))))) (ea_nil))) (eg_name (i := 4) S__law_rules.nd rfl (by first | exact .inl rfl | exact .inr rfl)) (es_seq (es_set (i := 5) S__law_rules.nd rfl (by first | exact .inl rfl | exact .inr rfl) (ex_bin op_addD (ex_bin op_addD (ex_var (pv 1)) (ex_int)) (ex_bin op_mulD (ex_int) (ex_var (pv 4)))))
      (es_seq (es_own (i := 6) S__law_rules.nd rfl (by first | exact .inl rfl | exact .inr rfl) (en_lst (ea_nil)))
      (es_seq (es_for (vs := [7]) PassesOwn.leaving rfl (ei_rng1 rfl Z.z_range (ea_cons (ex_int) (ea_nil))) (eg_name (i := 7) S__law_rules.nd rfl (by first | exact .inl rfl | exact .inr rfl)) (es_seq (es_set (i := 9) S__law_rules.nd rfl (by first | exact .inl rfl | exact .inr rfl) (ex_ix hu (EN.ex (en_lst (ea_cons (ex_int) (ea_cons (ex_int) (ea_cons (ex_int) (ea_cons (ex_int) (ea_cons (ex_int) (ea_cons (ex_int) (ea_nil))))))))) (ex_callD (ps := P__law_mix) d__law_mix hr (by decide) hq rfl (takes_of rfl rfl rfl rfl) (ea_cons (ex_var (pv 0)) (ea_cons (ex_bin op_addD (ex_var (pv 5)) (ex_var (pv 7))) (ea_cons (ex_int) (ea_nil))))) (fun _ _ => rfl)))
      (es_seq (es_set (i := 10) S__law_rules.nd rfl (by first | exact .inl rfl | exact .inr rfl) (ex_callD (ps := P__law_two) d__law_two hr (by decide) hq rfl (takes_of rfl rfl rfl rfl) (ea_cons (ex_bin op_subD (ex_int) (ex_var (pv 9))) (ea_nil))))
      (es_seq (es_set (i := 11) S__law_rules.nd rfl (by first | exact .inl rfl | exact .inr rfl) (ex_ix hu (EN.ex (en_lst (ea_cons (ex_callD (ps := P__law_mix) d__law_mix hr (by decide) hq rfl (takes_of rfl rfl rfl rfl) (ea_cons (ex_var (pv 0)) (ea_cons (ex_bin op_addD (ex_bin op_addD (ex_var (pv 5)) (ex_int)) (ex_var (pv 7))) (ea_cons (ex_int) (ea_nil))))) (ea_cons (ex_callD (ps := P__law_mix) d__law_mix hr (by decide) hq rfl (takes_of rfl rfl rfl rfl) (ea_cons (ex_var (pv 0)) (ea_cons (ex_bin op_addD (ex_bin op_addD (ex_var (pv 5)) (ex_int)) (ex_var (pv 7))) (ea_cons (ex_int) (ea_nil))))) (ea_nil))))) (ex_callD (ps := P__law_mix) d__law_mix hr (by decide) hq rfl (takes_of rfl rfl rfl rfl) (ea_cons (ex_var (pv 0)) (ea_cons (ex_bin op_addD (ex_bin op_addD (ex_var (pv 5)) (ex_int)) (ex_var (pv 7))) (ea_cons (ex_int) (ea_nil))))) (fun _ _ => rfl)))
      (es_one (es_drop (ex_mutL PySem.F.slot_list_append PySem.F.type_list_append mt_append mut_app (pv 6) (ea_cons (ex_tup (ea_cons (ex_bin op_subD (ex_var (pv 11)) (ex_bin op_modD (ex_bty cr_int rfl Z.z_int rfl (ea_cons (ex_var (pv 11)) (ea_nil))) (ex_var (pv 10)))) (ea_cons (ex_var (pv 9)) (ea_nil)))) (ea_nil)))))))))
      (es_seq (es_set (i := 8) S__law_rules.nd rfl (by first | exact .inl rfl | exact .inr rfl) (ex_ix hu (EN.ex (en_lst (ea_cons (ex_int) (ea_cons (ex_callD (ps := P__law_mix) d__law_mix hr (by decide) hq rfl (takes_of rfl rfl rfl rfl) (ea_cons (ex_var (pv 0)) (ea_cons (ex_bin op_addD (ex_var (pv 5)) (ex_int)) (ea_cons (ex_int) (ea_nil))))) (ea_cons (ex_int) (ea_nil)))))) (ex_callD (ps := P__law_mix) d__law_mix hr (by decide) hq rfl (takes_of rfl rfl rfl rfl) (ea_cons (ex_var (pv 0)) (ea_cons (ex_bin op_addD (ex_var (pv 5)) (ex_int)) (ea_cons (ex_int) (ea_nil))))) (fun _ _ => rfl)))
      (es_one (es_drop (ex_mutL PySem.F.slot_list_append PySem.F.type_list_append mt_append mut_app (pv 3) (ea_cons (ex_tup (ea_cons (ex_ix hu (EN.ex (en_lst (ea_cons (ex_str) (ea_cons (ex_str) (ea_nil))))) (ex_callD (ps := P__law_mix) d__law_mix hr (by decide) hq rfl (takes_of rfl rfl rfl rfl) (ea_cons (ex_var (pv 0)) (ea_cons (ex_bin op_addD (ex_var (pv 5)) (ex_int)) (ea_cons (ex_int) (ea_nil))))) (fun _ _ => rfl)) (ea_cons (ex_ix hu (ex_var (pv 6)) (ex_int) (fun _ _ => rfl)) (ea_cons (ex_ix hu (ex_var (pv 6)) (ex_int) (fun _ _ => rfl)) (ea_cons (ex_var (pv 8)) (ea_cons (ex_bin op_addD (ex_var (pv 8)) (ex_callD (ps := P__law_mix) d__law_mix hr (by decide) hq rfl (takes_of rfl rfl rfl rfl) (ea_cons (ex_var (pv 0)) (ea_cons (ex_bin op_addD (ex_var (pv 5)) (ex_int)) (ea_cons (ex_bin op_subD (ex_int) (ex_var (pv 8))) (ea_nil)))))) (ea_nil))))))) (ea_nil))))))))))
      (es_one (es_ret (ex_var (pv 3)))))), hm, Fn.kp, hb⟩
theorem ok__law_corners (Z : Zs K mg) (Er : Es P K mg Bn fn) (d__law_two : Def0 P w K mg base 1 "_law_two" P__law_two F__law_two) {f : Addr} {fd : FuncData} (Fn : Fun K "_law_corners" "_law_corners" st__law_corners f fd) (hm : mg "_law_corners" = some (.ref f)) (hb : Binds K fd P__law_corners []) : Def0 P w K mg base 2 "_law_corners" P__law_corners F__law_corners :=
  ⟨f, fd, fnG_pure Fn S__law_corners (fun ds _ => rfl) (fun cdv A outer s H E hr hq =>
    have hu := hr.units
    es_seq (es_set (i := 1) S__law_corners.nd rfl (by first | exact .inl rfl | exact .inr rfl) (EN.ex (en_lst (ea_cons (ex_int) (ea_nil)))))
      (es_seq (es_set (i := 2) S__law_corners.nd rfl (by first | exact .inl rfl | exact .inr rfl) (EN.ex (en_lst (ea_cons (ex_int) (ea_nil)))))
      (es_seq (es_set (i := 3) S__law_corners.nd rfl (by first | exact .inl rfl | exact .inr rfl) (EN.ex (en_lst (ea_cons (ex_int) (ea_nil)))))
      (es_seq (es_for (vs := [4]) PassesOwn.leaving rfl (ei_seq (ex_var (pv 0))) (eg_name (i := 4) S__law_corners.nd rfl (by first | exact .inl rfl | exact .inr rfl)) (es_seq (es_set (i := 1) S__law_corners.nd rfl (by first | exact .inl rfl | exact .inr rfl) (ex_bin op_addD (ex_var (pv 1)) (EN.ex (en_lst (ea_cons (ex_ix hu (ex_ix hu (ex_var (pv 4)) (ex_int) (fun _ _ => rfl)) (ex_int) (fun _ _ => rfl)) (ea_cons (ex_bin op_addD (ex_ix hu (ex_ix hu (ex_var (pv 4)) (ex_int) (fun _ _ => rfl)) (ex_int) (fun _ _ => rfl)) (ex_callD (ps := P__law_two) d__law_two hr (by decide) hq rfl (takes_of rfl rfl rfl rfl) (ea_cons (ex_bin op_subD (ex_int) (ex_ix hu (ex_ix hu (ex_var (pv 4)) (ex_int) (fun _ _ => rfl)) (ex_int) (fun _ _ => rfl))) (ea_nil)))) (ea_nil)))))))
      (es_seq (es_set (i := 2) S__law_corners.nd rfl (by first | exact .inl rfl | exact .inr rfl) (ex_bin op_addD (ex_var (pv 2)) (EN.ex (en_lst (ea_cons (ex_ix hu (ex_ix hu (ex_var (pv 4)) (ex_int) (fun _ _ => rfl)) (ex_int) (fun _ _ => rfl)) (ea_cons (ex_bin op_addD (ex_ix hu (ex_ix hu (ex_var (pv 4)) (ex_int) (fun _ _ => rfl)) (ex_int) (fun _ _ => rfl)) (ex_callD (ps := P__law_two) d__law_two hr (by decide) hq rfl (takes_of rfl rfl rfl rfl) (ea_cons (ex_bin op_subD (ex_int) (ex_ix hu (ex_ix hu (ex_var (pv 4)) (ex_int) (fun _ _ => rfl)) (ex_int) (fun _ _ => rfl))) (ea_nil)))) (ea_nil)))))))
      (es_one (es_set (i := 3) S__law_corners.nd rfl (by first | exact .inl rfl | exact .inr rfl) (ex_bin op_addD (ex_var (pv 3)) (EN.ex (en_lst (ea_cons (ex_ix hu (ex_var (pv 4)) (ex_int) (fun _ _ => rfl)) (ea_cons (ex_bin op_addD (ex_ix hu (ex_var (pv 4)) (ex_int) (fun _ _ => rfl)) (ex_int)) (ea_nil)))))))))))
      (es_seq (es_set (i := 5) S__law_corners.nd rfl (by first | exact .inl rfl | exact .inr rfl) (EN.ex (en_lst (ea_nil))))
      (es_seq (es_for (vs := [6]) PassesOwn.leaving rfl (ei_seq (EN.ex (en_sortSetI rfl rfl Z.z_sorted rfl Z.z_set (EN.ex (en_comp rfl S__law_corners.nd (own := [("one", 4)]) (ei_seq (ex_var (pv 1))) (blkOk_by (own := [("one", 4)]) (N := N__law_corners) (sc := defScope st__law_corners) (by decide +kernel)) (us := [4]) (by decide) (fun _ _ _ _ _ => eg_name (i := 4) S__law_corners.nd rfl (by first | exact .inl rfl | exact .inr rfl)) (fun _ _ _ _ _ => eq_one (et_cmp (op_ltD hu) (ex_var (pv 4)) (ex_int))) (fun _ _ _ _ _ => ex_var (pv 4))))))) (eg_name (i := 6) S__law_corners.nd rfl (by first | exact .inl rfl | exact .inr rfl)) (es_one (es_for (vs := [7]) PassesOwn.leaving rfl (ei_seq (EN.ex (en_sortSetI rfl rfl Z.z_sorted rfl Z.z_set (EN.ex (en_comp rfl S__law_corners.nd (own := [("one", 4)]) (ei_seq (ex_var (pv 2))) (blkOk_by (own := [("one", 4)]) (N := N__law_corners) (sc := defScope st__law_corners) (by decide +kernel)) (us := [4]) (by decide) (fun _ _ _ _ _ => eg_name (i := 4) S__law_corners.nd rfl (by first | exact .inl rfl | exact .inr rfl)) (fun _ _ _ _ _ => eq_one (et_cmp (op_ltD hu) (ex_var (pv 4)) (ex_int))) (fun _ _ _ _ _ => ex_var (pv 4))))))) (eg_name (i := 7) S__law_corners.nd rfl (by first | exact .inl rfl | exact .inr rfl)) (es_one (es_set (i := 5) S__law_corners.nd rfl (by first | exact .inl rfl | exact .inr rfl) (ex_bin op_addD (ex_var (pv 5)) (EN.ex (en_comp rfl S__law_corners.nd (own := [("mark", 8)]) (ei_seq (EN.ex (en_sortSetI rfl rfl Z.z_sorted rfl Z.z_set (EN.ex (en_comp rfl S__law_corners.nd (own := [("one", 4)]) (ei_seq (ex_var (pv 3))) (blkOk_by (own := [("one", 4)]) (N := N__law_corners) (sc := defScope st__law_corners) (by decide +kernel)) (us := [4]) (by decide) (fun _ _ _ _ _ => eg_name (i := 4) S__law_corners.nd rfl (by first | exact .inl rfl | exact .inr rfl)) (fun _ _ _ _ _ => eq_one (et_cmp (op_ltD hu) (ex_var (pv 4)) (ex_int))) (fun _ _ _ _ _ => ex_var (pv 4))))))) (blkOk_by (own := [("mark", 8)]) (N := N__law_corners) (sc := defScope st__law_corners) (by decide +kernel)) (us := [8]) (by decide) (fun _ _ _ _ _ => eg_name (i := 8) S__law_corners.nd rfl (by first | exact .inl rfl | exact .inr rfl)) (fun _ _ _ _ _ => eq_nil) (fun _ _ _ _ _ => ex_tup (ea_cons (ex_var (pv 6)) (ea_cons (ex_var (pv 7)) (ea_cons (ex_var (pv 8)) (ea_nil)))))))))))))
      (es_one (es_ret (ex_var (pv 5)))))))))), hm, Fn.kp, hb⟩
theorem ok_is_rule (Z : Zs K mg) (Er : Es P K mg Bn fn) (d_is_prefix : Def0 P w K mg base 2 "is_prefix" P_is_prefix F_is_prefix) {f : Addr} {fd : FuncData} (Fn : Fun K "is_rule" "is_rule" st_is_rule f fd) (hm : mg "is_rule" = some (.ref f)) (hb : Binds K fd P_is_rule []) : Def0 P w K mg base 3 "is_rule" P_is_rule F_is_rule :=
  ⟨f, fd, fnG_pure Fn S_is_rule (fun ds _ => rfl) (fun cdv A outer s H E hr hq =>
    have hu := hr.units
    es_seq (es_asg (vs := [1, 2, 3, 4, 5]) (ex_var (pv 0)) (eg_tup rfl (egs_cons (eg_name (i := 1) S_is_rule.nd rfl (by first | exact .inl rfl | exact .inr rfl)) (egs_cons (eg_name (i := 2) S_is_rule.nd rfl (by first | exact .inl rfl | exact .inr rfl)) (egs_cons (eg_name (i := 3) S_is_rule.nd rfl (by first | exact .inl rfl | exact .inr rfl)) (egs_cons (eg_name (i := 4) S_is_rule.nd rfl (by first | exact .inl rfl | exact .inr rfl)) (egs_cons (eg_name (i := 5) S_is_rule.nd rfl (by first | exact .inl rfl | exact .inr rfl)) (egs_nil)))))) (glCons_len (glCons_len (glCons_len (glCons_len (glCons_len (glNil_len))))))))
      (es_one (es_ret (ex_and (ex_cmp (op_inD' hu) (ex_var (pv 1)) ((by obtain ⟨t, ob, its, n, h0, h1, h2, h3, h4, h5⟩ := Z.m_WORDS; exact ex_globT rfl h0 h1 h2 h3 h4 h5))) (ex_and (ex_callD (ps := P_is_prefix) d_is_prefix hr (by decide) hq rfl (takes_of rfl rfl rfl rfl) (ea_cons (ex_var (pv 2)) (ea_nil))) (ex_and (ex_callD (ps := P_is_prefix) d_is_prefix hr (by decide) hq rfl (takes_of rfl rfl rfl rfl) (ea_cons (ex_var (pv 3)) (ea_nil))) (ex_one (ex_chainN (ex_int) (ch_link (op_leD hu) (ex_var (pv 4)) (ch_link (op_leD hu) (ex_var (pv 5)) (ch_last (op_ltD hu) ((by obtain ⟨t, ht⟩ := Z.m_MARKS; exact ex_globI rfl ht))))))))))))), hm, Fn.kp, hb⟩
theorem ok_fits (Z : Zs K mg) (Er : Es P K mg Bn fn) (d_holds : Def0 P w K mg base 2 "holds" P_holds F_holds) {f : Addr} {fd : FuncData} (Fn : Fun K "fits" "fits" st_fits f fd) (hm : mg "fits" = some (.ref f)) (hb : Binds K fd P_fits []) : Def0 P w K mg base 3 "fits" P_fits F_fits :=
  ⟨f, fd, fnG_pure Fn S_fits (fun ds _ => rfl) (fun cdv A outer s H E hr hq =>
    have hu := hr.units
    es_one (es_ret (ex_and (ex_callD (ps := P_holds) d_holds hr (by decide) hq rfl (takes_of rfl rfl rfl rfl) (ea_cons (ex_ix hu (ex_var (pv 0)) (ex_int) (fun _ _ => rfl)) (ea_cons (ex_var (pv 1)) (ea_nil)))) (ex_and (ex_callD (ps := P_holds) d_holds hr (by decide) hq rfl (takes_of rfl rfl rfl rfl) (ea_cons (ex_ix hu (ex_var (pv 0)) (ex_int) (fun _ _ => rfl)) (ea_cons (ex_var (pv 2)) (ea_nil)))) (ex_one (ex_chain (op_leD hu) (op_leD hu) (ex_ix hu (ex_var (pv 0)) (ex_int) (fun _ _ => rfl)) (ex_var (pv 3)) (ex_ix hu (ex_var (pv 0)) (ex_int) (fun _ _ => rfl)))))))), hm, Fn.kp, hb⟩
theorem ok_corners (Z : Zs K mg) (Er : Es P K mg Bn fn) (d_starts : Def0 P w K mg base 1 "starts" P_starts F_starts) (d_span : Def0 P w K mg base 2 "span" P_span F_span) {f : Addr} {fd : FuncData} (Fn : Fun K "corners" "corners" st_corners f fd) (hm : mg "corners" = some (.ref f)) (hb : Binds K fd P_corners []) : Def0 P w K mg base 3 "corners" P_corners F_corners :=
  ⟨f, fd, fnG_pure Fn S_corners (fun ds _ => rfl) (fun cdv A outer s H E hr hq =>
    have hu := hr.units
    es_seq (es_set (i := 1) S_corners.nd rfl (by first | exact .inl rfl | exact .inr rfl) (ex_callD (ps := P_starts) d_starts hr (by decide) hq rfl (takes_of rfl rfl rfl rfl) (ea_cons (EN.ex (en_comp rfl S_corners.nd (own := [("told", 3)]) (ei_seq (ex_var (pv 0))) (blkOk_by (own := [("told", 3)]) (N := N_corners) (sc := defScope st_corners) (by decide +kernel)) (us := [3]) (by decide) (fun _ _ _ _ _ => eg_name (i := 3) S_corners.nd rfl (by first | exact .inl rfl | exact .inr rfl)) (fun _ _ _ _ _ => eq_nil) (fun _ _ _ _ _ => ex_callD (ps := P_span) d_span hr (by decide) hq rfl takes0 (ea_cons (ex_ix hu (ex_var (pv 3)) (ex_int) (fun _ _ => rfl)) (ea_nil))))) (ea_cons ((by obtain ⟨t, ht⟩ := Z.m_ADDRESSES; exact ex_globI rfl ht)) (ea_nil)))))
      (es_seq (es_set (i := 2) S_corners.nd rfl (by first | exact .inl rfl | exact .inr rfl) (ex_callD (ps := P_starts) d_starts hr (by decide) hq rfl (takes_of rfl rfl rfl rfl) (ea_cons (EN.ex (en_comp rfl S_corners.nd (own := [("told", 3)]) (ei_seq (ex_var (pv 0))) (blkOk_by (own := [("told", 3)]) (N := N_corners) (sc := defScope st_corners) (by decide +kernel)) (us := [3]) (by decide) (fun _ _ _ _ _ => eg_name (i := 3) S_corners.nd rfl (by first | exact .inl rfl | exact .inr rfl)) (fun _ _ _ _ _ => eq_nil) (fun _ _ _ _ _ => ex_callD (ps := P_span) d_span hr (by decide) hq rfl takes0 (ea_cons (ex_ix hu (ex_var (pv 3)) (ex_int) (fun _ _ => rfl)) (ea_nil))))) (ea_cons ((by obtain ⟨t, ht⟩ := Z.m_ADDRESSES; exact ex_globI rfl ht)) (ea_nil)))))
      (es_one (es_ret (ex_tup (ea_cons (ex_var (pv 1)) (ea_cons (ex_var (pv 2)) (ea_cons (ex_callD (ps := P_starts) d_starts hr (by decide) hq rfl (takes_of rfl rfl rfl rfl) (ea_cons (EN.ex (en_comp rfl S_corners.nd (own := [("told", 3)]) (ei_seq (ex_var (pv 0))) (blkOk_by (own := [("told", 3)]) (N := N_corners) (sc := defScope st_corners) (by decide +kernel)) (us := [3]) (by decide) (fun _ _ _ _ _ => eg_name (i := 3) S_corners.nd rfl (by first | exact .inl rfl | exact .inr rfl)) (fun _ _ _ _ _ => eq_nil) (fun _ _ _ _ _ => ex_tup (ea_cons (ex_ix hu (ex_var (pv 3)) (ex_int) (fun _ _ => rfl)) (ea_cons (ex_ix hu (ex_var (pv 3)) (ex_int) (fun _ _ => rfl)) (ea_nil)))))) (ea_cons ((by obtain ⟨t, ht⟩ := Z.m_MARKS; exact ex_globI rfl ht)) (ea_nil)))) (ea_nil))))))))), hm, Fn.kp, hb⟩
theorem ok__law_passes (Z : Zs K mg) (Er : Es P K mg Bn fn) (d__law_holds : Def0 P w K mg base 2 "_law_holds" P__law_holds F__law_holds) {f : Addr} {fd : FuncData} (Fn : Fun K "_law_passes" "_law_passes" st__law_passes f fd) (hm : mg "_law_passes" = some (.ref f)) (hb : Binds K fd P__law_passes []) : Def0 P w K mg base 3 "_law_passes" P__law_passes F__law_passes :=
  ⟨f, fd, fnG_pure Fn S__law_passes (fun ds _ => rfl) (fun cdv A outer s H E hr hq =>
    have hu := hr.units
    es_seq (es_setComp (i := 4) rfl S__law_passes.nd rfl rfl (sw_true rfl rfl rfl (by decide +kernel)) (own := [("one", 5)]) (ei_seq (ex_var (pv 0))) (blkOk_by (own := [("one", 5)]) (N := N__law_passes) (sc := defScope st__law_passes) (by decide +kernel)) (us := [5]) (by decide) (fun _ _ _ _ _ => eg_name (i := 5) S__law_passes.nd rfl (by first | exact .inl rfl | exact .inr rfl)) (fun _ _ _ _ _ => eq_one (et_bool (ew_and (et_val (ex_callD (ps := P__law_holds) d__law_holds hr (by decide) hq rfl takes0 (ea_cons (ex_ix hu (ex_var (pv 5)) (ex_int) (fun _ _ => rfl)) (ea_cons (ex_var (pv 1)) (ea_nil))))) (ew_and (et_val (ex_callD (ps := P__law_holds) d__law_holds hr (by decide) hq rfl takes0 (ea_cons (ex_ix hu (ex_var (pv 5)) (ex_int) (fun _ _ => rfl)) (ea_cons (ex_var (pv 2)) (ea_nil))))) (ew_and1 (et_chain (op_leD hu) (op_leD hu) (ex_ix hu (ex_var (pv 5)) (ex_int) (fun _ _ => rfl)) (ex_var (pv 3)) (ex_ix hu (ex_var (pv 5)) (ex_int) (fun _ _ => rfl)))))))) (fun _ _ _ _ _ => ex_var (pv 5)))
      (es_one (es_ret (ex_or (ex_cmp (op_eqD' hu) (ex_var (pv 4)) (EN.ex (en_lst (ea_nil)))) (ex_one (ex_cmp (op_eqD' hu) (ex_ix hu (ex_ix hu (ex_var (pv 4)) (ex_int) (fun _ _ => rfl)) (ex_int) (fun _ _ => rfl)) (ex_str))))))), hm, Fn.kp, hb⟩
theorem ok_check_rules (Z : Zs K mg) (Er : Es P K mg Bn fn) (d_is_rule : Def0 P w K mg base 3 "is_rule" P_is_rule F_is_rule) {f : Addr} {fd : FuncData} (Fn : Fun K "check_rules" "check_rules" st_check_rules f fd) (hm : mg "check_rules" = some (.ref f)) (hb : Binds K fd P_check_rules []) : Def0 P w K mg base 4 "check_rules" P_check_rules F_check_rules :=
  ⟨f, fd, fnG_pure Fn S_check_rules (fun ds _ => rfl) (fun cdv A outer s H E hr hq =>
    have hu := hr.units
    es_seq (es_if (et_cmp (op_gtD hu) (ex_blt cr_lenD rfl Z.z_len rfl (ea_cons (ex_var (pv 0)) (ea_nil))) ((by obtain ⟨t, ht⟩ := Z.m_MOST_RULES; exact ex_globI rfl ht))) (es_one ((by obtain ⟨C, g1, TC⟩ := Er.c_TooMany; exact es_raise Er.net TC g1 rfl hr (takes_of rfl rfl rfl rfl) (ex_blt cr_lenD rfl Z.z_len rfl (ea_cons (ex_var (pv 0)) (ea_nil))) rfl))) (es_nil))
      (es_one (es_for (vs := [1, 2]) PassesOwn.leaving rfl (ei_enum rfl Z.z_enumerate (ea_cons (ex_var (pv 0)) (ea_nil))) (eg_tup rfl (egs_cons (eg_name (i := 1) S_check_rules.nd rfl (by first | exact .inl rfl | exact .inr rfl)) (egs_cons (eg_name (i := 2) S_check_rules.nd rfl (by first | exact .inl rfl | exact .inr rfl)) (egs_nil))) (glCons_len (glCons_len (glNil_len)))) (es_one (es_if (et_not (et_val (ex_callD (ps := P_is_rule) d_is_rule hr (by decide) hq rfl (takes_of rfl rfl rfl rfl) (ea_cons (ex_var (pv 2)) (ea_nil))))) (es_one ((by obtain ⟨C, g1, TC⟩ := Er.c_BadRule; exact es_raise Er.net TC g1 rfl hr (takes_of rfl rfl rfl rfl) (ex_var (pv 1)) rfl))) (es_nil)))))), hm, Fn.kp, hb⟩
theorem ok_first_fit (Z : Zs K mg) (Er : Es P K mg Bn fn) (d_fits : Def0 P w K mg base 3 "fits" P_fits F_fits) {f : Addr} {fd : FuncData} (Fn : Fun K "first_fit" "first_fit" st_first_fit f fd) (hm : mg "first_fit" = some (.ref f)) (hb : Binds K fd P_first_fit []) : Def0 P w K mg base 4 "first_fit" P_first_fit F_first_fit :=
  ⟨f, fd, fnG_pure Fn S_first_fit (fun ds _ => rfl) (fun cdv A outer s H E hr hq =>
    have hu := hr.units
    es_seq (es_setComp (i := 4) rfl S_first_fit.nd rfl rfl (sw_true rfl rfl rfl (by decide +kernel)) (own := [("k", 5), ("told", 6)]) (ei_enum rfl Z.z_enumerate (ea_cons (ex_var (pv 0)) (ea_nil))) (blkOk_by (own := [("k", 5), ("told", 6)]) (N := N_first_fit) (sc := defScope st_first_fit) (by decide +kernel)) (us := [5, 6]) (by decide) (fun _ _ _ _ _ => eg_tup rfl (egs_cons (eg_name (i := 5) S_first_fit.nd rfl (by first | exact .inl rfl | exact .inr rfl)) (egs_cons (eg_name (i := 6) S_first_fit.nd rfl (by first | exact .inl rfl | exact .inr rfl)) (egs_nil))) (glCons_len (glCons_len (glNil_len)))) (fun _ _ _ _ _ => eq_one (et_val (ex_callD (ps := P_fits) d_fits hr (by decide) hq rfl takes0 (ea_cons (ex_var (pv 6)) (ea_cons (ex_var (pv 1)) (ea_cons (ex_var (pv 2)) (ea_cons (ex_var (pv 3)) (ea_nil)))))))) (fun _ _ _ _ _ => ex_var (pv 5)))
      (es_one (es_ret (ex_if (et_cmp (op_gtD hu) (ex_blt cr_lenD rfl Z.z_len rfl (ea_cons (ex_var (pv 4)) (ea_nil))) (ex_int)) (ex_ix hu (ex_var (pv 4)) (ex_int) (fun _ _ => rfl)) (ex_none))))), hm, Fn.kp, hb⟩
theorem ok_triples_of (Z : Zs K mg) (Er : Es P K mg Bn fn) (d_corners : Def0 P w K mg base 3 "corners" P_corners F_corners) {f : Addr} {fd : FuncData} (Fn : Fun K "triples_of" "triples_of" st_triples_of f fd) (hm : mg "triples_of" = some (.ref f)) (hb : Binds K fd P_triples_of []) : Def0 P w K mg base 4 "triples_of" P_triples_of F_triples_of :=
  ⟨f, fd, fnG_pure Fn S_triples_of (fun ds _ => rfl) (fun cdv A outer s H E hr hq =>
    have hu := hr.units
    es_seq (es_asg (vs := [1, 2, 3]) (ex_callD (ps := P_corners) d_corners hr (by decide) hq rfl (takes_of rfl rfl rfl rfl) (ea_cons (ex_var (pv 0)) (ea_nil))) (eg_tup rfl (egs_cons (eg_name (i := 1) S_triples_of.nd rfl (by first | exact .inl rfl | exact .inr rfl)) (egs_cons (eg_name (i := 2) S_triples_of.nd rfl (by first | exact .inl rfl | exact .inr rfl)) (egs_cons (eg_name (i := 3) S_triples_of.nd rfl (by first | exact .inl rfl | exact .inr rfl)) (egs_nil)))) (glCons_len (glCons_len (glCons_len (glNil_len))))))
      (es_one (es_ret (EN.ex (en_compN rfl S_triples_of.nd (own := [("source", 4), ("target", 5), ("mark", 6)]) (ei_seq (ex_var (pv 1))) (blkOk_by (own := [("source", 4), ("target", 5), ("mark", 6)]) (N := N_triples_of) (sc := defScope st_triples_of) (by decide +kernel)) (us := [4]) (by decide) (.cons (by decide) (in_cons (by decide)) (.cons (by decide) in_nil (.nil))) (in_cons (by decide)) (fun _ _ _ _ _ => eg_name (i := 4) S_triples_of.nd rfl (by first | exact .inl rfl | exact .inr rfl)) (fun _ _ _ _ _ => eq_nil) (fun _ _ _ _ _ => .cons (ei_seq (ex_var (pv 2))) (eg_name (i := 5) S_triples_of.nd rfl (by first | exact .inl rfl | exact .inr rfl)) (eq_nil) (.cons (ei_seq (ex_var (pv 3))) (eg_name (i := 6) S_triples_of.nd rfl (by first | exact .inl rfl | exact .inr rfl)) (eq_nil) (.nil))) (fun _ _ _ _ _ => ex_tup (ea_cons (ex_var (pv 4)) (ea_cons (ex_var (pv 5)) (ea_cons (ex_var (pv 6)) (ea_nil)))))))))), hm, Fn.kp, hb⟩
theorem ok__law_unlike (Z : Zs K mg) (Er : Es P K mg Bn fn) (d__law_corners : Def0 P w K mg base 2 "_law_corners" P__law_corners F__law_corners) (d__law_passes : Def0 P w K mg base 3 "_law_passes" P__law_passes F__law_passes) {f : Addr} {fd : FuncData} (Fn : Fun K "_law_unlike" "_law_unlike" st__law_unlike f fd) (hm : mg "_law_unlike" = some (.ref f)) (hb : Binds K fd P__law_unlike []) : Def0 P w K mg base 4 "_law_unlike" P__law_unlike F__law_unlike :=
  ⟨f, fd, fnG_pure Fn S__law_unlike (fun ds _ => rfl) (fun cdv A outer s H E hr hq =>
    have hu := hr.units
    es_seq (es_for (vs := [2]) PassesOwn.leaving rfl (ei_seq (ex_callD (ps := P__law_corners) d__law_corners hr (by decide) hq rfl (takes_of rfl rfl rfl rfl) (ea_cons (ex_bin op_addD (ex_var (pv 0)) (ex_var (pv 1))) (ea_nil)))) (eg_name (i := 2) S__law_unlike.nd rfl (by first | exact .inl rfl | exact .inr rfl)) (es_one (es_if (et_cmp (op_neD' hu) (ex_callD (ps := P__law_passes) d__law_passes hr (by decide) hq rfl (takes_of rfl rfl rfl rfl) (ea_cons (ex_var (pv 0)) (ea_cons (ex_ix hu (ex_var (pv 2)) (ex_int) (fun _ _ => rfl)) (ea_cons (ex_ix hu (ex_var (pv 2)) (ex_int) (fun _ _ => rfl)) (ea_cons (ex_ix hu (ex_var (pv 2)) (ex_int) (fun _ _ => rfl)) (ea_nil)))))) (ex_callD (ps := P__law_passes) d__law_passes hr (by decide) hq rfl (takes_of rfl rfl rfl rfl) (ea_cons (ex_var (pv 1)) (ea_cons (ex_ix hu (ex_var (pv 2)) (ex_int) (fun _ _ => rfl)) (ea_cons (ex_ix hu (ex_var (pv 2)) (ex_int) (fun _ _ => rfl)) (ea_cons (ex_ix hu (ex_var (pv 2)) (ex_int) (fun _ _ => rfl)) (ea_nil))))))) (es_one (es_ret (ex_var (pv 2)))) (es_nil))))
      (es_one (es_ret (ex_none)))), hm, Fn.kp, hb⟩
theorem ok_passes (Z : Zs K mg) (Er : Es P K mg Bn fn) (d_first_fit : Def0 P w K mg base 4 "first_fit" P_first_fit F_first_fit) {f : Addr} {fd : FuncData} (Fn : Fun K "passes" "passes" st_passes f fd) (hm : mg "passes" = some (.ref f)) (hb : Binds K fd P_passes []) : Def0 P w K mg base 5 "passes" P_passes F_passes :=
  ⟨f, fd, fnG_pure Fn S_passes (fun ds _ => rfl) (fun cdv A outer s H E hr hq =>
    have hu := hr.units
    es_seq (es_set (i := 4) S_passes.nd rfl (by first | exact .inl rfl | exact .inr rfl) (ex_callD (ps := P_first_fit) d_first_fit hr (by decide) hq rfl (takes_of rfl rfl rfl rfl) (ea_cons (ex_var (pv 0)) (ea_cons (ex_var (pv 1)) (ea_cons (ex_var (pv 2)) (ea_cons (ex_var (pv 3)) (ea_nil)))))))
      (es_one (es_ret (ex_or (ex_isN (ex_var (pv 4))) (ex_one (ex_cmp (op_eqD' hu) (ex_ix hu (ex_ix hu (ex_var (pv 0)) (ex_var (pv 4)) (fun _ _ => rfl)) (ex_int) (fun _ _ => rfl)) (ex_str))))))), hm, Fn.kp, hb⟩
theorem ok_never_fits (Z : Zs K mg) (Er : Es P K mg Bn fn) (d_check_rules : Def0 P w K mg base 4 "check_rules" P_check_rules F_check_rules) (d_first_fit : Def0 P w K mg base 4 "first_fit" P_first_fit F_first_fit) (d_triples_of : Def0 P w K mg base 4 "triples_of" P_triples_of F_triples_of) {f : Addr} {fd : FuncData} (Fn : Fun K "never_fits" "never_fits" st_never_fits f fd) (hm : mg "never_fits" = some (.ref f)) (hb : Binds K fd P_never_fits []) : Def0 P w K mg base 5 "never_fits" P_never_fits F_never_fits :=
  ⟨f, fd, fnG_pure Fn S_never_fits (fun ds _ => rfl) (fun cdv A outer s H E hr hq =>
    have hu := hr.units
    es_seq (es_drop (ex_callD (ps := P_check_rules) d_check_rules hr (by decide) hq rfl (takes_of rfl rfl rfl rfl) (ea_cons (ex_var (pv 0)) (ea_nil))))
      (es_seq (es_set (i := 1) S_never_fits.nd rfl (by first | exact .inl rfl | exact .inr rfl) (EN.ex (en_comp rfl S_never_fits.nd (own := [("source", 3), ("target", 4), ("mark", 5)]) (ei_seq (ex_callD (ps := P_triples_of) d_triples_of hr (by decide) hq rfl (takes_of rfl rfl rfl rfl) (ea_cons (ex_var (pv 0)) (ea_nil)))) (blkOk_by (own := [("source", 3), ("target", 4), ("mark", 5)]) (N := N_never_fits) (sc := defScope st_never_fits) (by decide +kernel)) (us := [3, 4, 5]) (by decide) (fun _ _ _ _ _ => eg_tup rfl (egs_cons (eg_name (i := 3) S_never_fits.nd rfl (by first | exact .inl rfl | exact .inr rfl)) (egs_cons (eg_name (i := 4) S_never_fits.nd rfl (by first | exact .inl rfl | exact .inr rfl)) (egs_cons (eg_name (i := 5) S_never_fits.nd rfl (by first | exact .inl rfl | exact .inr rfl)) (egs_nil)))) (glCons_len (glCons_len (glCons_len (glNil_len))))) (fun _ _ _ _ _ => eq_nil) (fun _ _ _ _ _ => ex_callD (ps := P_first_fit) d_first_fit hr (by decide) hq rfl takes0 (ea_cons (ex_var (pv 0)) (ea_cons (ex_var (pv 3)) (ea_cons (ex_var (pv 4)) (ea_cons (ex_var (pv 5)) (ea_nil)))))))))
      (es_one (es_ret (EN.ex (en_comp rfl S_never_fits.nd (own := [("k", 2)]) (ei_rng1 rfl Z.z_range (ea_cons (ex_blt cr_lenD rfl Z.z_len rfl (ea_cons (ex_var (pv 0)) (ea_nil))) (ea_nil))) (blkOk_by (own := [("k", 2)]) (N := N_never_fits) (sc := defScope st_never_fits) (by decide +kernel)) (us := [2]) (by decide) (fun _ _ _ _ _ => eg_name (i := 2) S_never_fits.nd rfl (by first | exact .inl rfl | exact .inr rfl)) (fun _ _ _ _ _ => eq_one (et_cmp (op_ninD' hu) (ex_var (pv 2)) (ex_var (pv 1)))) (fun _ _ _ _ _ => ex_var (pv 2)))))))), hm, Fn.kp, hb⟩
theorem ok_lets (Z : Zs K mg) (Er : Es P K mg Bn fn) (d_check_rules : Def0 P w K mg base 4 "check_rules" P_check_rules F_check_rules) (d_passes : Def0 P w K mg base 5 "passes" P_passes F_passes) {f : Addr} {fd : FuncData} (Fn : Fun K "lets" "lets" st_lets f fd) (hm : mg "lets" = some (.ref f)) (hb : Binds K fd P_lets []) : Def0 P w K mg base 6 "lets" P_lets F_lets :=
  ⟨f, fd, fnG_pure Fn S_lets (fun ds _ => rfl) (fun cdv A outer s H E hr hq =>
    have hu := hr.units
    es_seq (es_drop (ex_callD (ps := P_check_rules) d_check_rules hr (by decide) hq rfl (takes_of rfl rfl rfl rfl) (ea_cons (ex_var (pv 0)) (ea_nil))))
      (es_one (es_ret (ex_callD (ps := P_passes) d_passes hr (by decide) hq rfl (takes_of rfl rfl rfl rfl) (ea_cons (ex_var (pv 0)) (ea_cons (ex_var (pv 1)) (ea_cons (ex_var (pv 2)) (ea_cons (ex_var (pv 3)) (ea_nil))))))))), hm, Fn.kp, hb⟩
theorem ok_parted (Z : Zs K mg) (Er : Es P K mg Bn fn) (d_triples_of : Def0 P w K mg base 4 "triples_of" P_triples_of F_triples_of) (d_passes : Def0 P w K mg base 5 "passes" P_passes F_passes) {f : Addr} {fd : FuncData} (Fn : Fun K "parted" "parted" st_parted f fd) (hm : mg "parted" = some (.ref f)) (hb : Binds K fd P_parted []) : Def0 P w K mg base 6 "parted" P_parted F_parted :=
  ⟨f, fd, fnG_pure Fn S_parted (fun ds _ => rfl) (fun cdv A outer s H E hr hq =>
    have hu := hr.units
    es_seq (es_for (vs := [2, 3, 4]) PassesOwn.leaving rfl (ei_seq (ex_callD (ps := P_triples_of) d_triples_of hr (by decide) hq rfl (takes_of rfl rfl rfl rfl) (ea_cons (EN.ex (en_lst (ea_star (ex_var (pv 0)) (ea_star (ex_var (pv 1)) (ea_nil))))) (ea_nil)))) (eg_tup rfl (egs_cons (eg_name (i := 2) S_parted.nd rfl (by first | exact .inl rfl | exact .inr rfl)) (egs_cons (eg_name (i := 3) S_parted.nd rfl (by first | exact .inl rfl | exact .inr rfl)) (egs_cons (eg_name (i := 4) S_parted.nd rfl (by first | exact .inl rfl | exact .inr rfl)) (egs_nil)))) (glCons_len (glCons_len (glCons_len (glNil_len))))) (es_one (es_if (et_cmp (op_neD' hu) (ex_callD (ps := P_passes) d_passes hr (by decide) hq rfl (takes_of rfl rfl rfl rfl) (ea_cons (ex_var (pv 0)) (ea_cons (ex_var (pv 2)) (ea_cons (ex_var (pv 3)) (ea_cons (ex_var (pv 4)) (ea_nil)))))) (ex_callD (ps := P_passes) d_passes hr (by decide) hq rfl (takes_of rfl rfl rfl rfl) (ea_cons (ex_var (pv 1)) (ea_cons (ex_var (pv 2)) (ea_cons (ex_var (pv 3)) (ea_cons (ex_var (pv 4)) (ea_nil))))))) (es_one (es_ret (ex_tup (ea_cons (ex_var (pv 2)) (ea_cons (ex_var (pv 3)) (ea_cons (ex_var (pv 4)) (ea_nil))))))) (es_nil))))
      (es_one (es_ret (ex_none)))), hm, Fn.kp, hb⟩
theorem ok_unlike (Z : Zs K mg) (Er : Es P K mg Bn fn) (d_check_rules : Def0 P w K mg base 4 "check_rules" P_check_rules F_check_rules) (d_parted : Def0 P w K mg base 6 "parted" P_parted F_parted) {f : Addr} {fd : FuncData} (Fn : Fun K "unlike" "unlike" st_unlike f fd) (hm : mg "unlike" = some (.ref f)) (hb : Binds K fd P_unlike []) : Def0 P w K mg base 7 "unlike" P_unlike F_unlike :=
  ⟨f, fd, fnG_pure Fn S_unlike (fun ds _ => rfl) (fun cdv A outer s H E hr hq =>
    have hu := hr.units
    es_seq (es_drop (ex_callD (ps := P_check_rules) d_check_rules hr (by decide) hq rfl (takes_of rfl rfl rfl rfl) (ea_cons (ex_var (pv 0)) (ea_nil))))
      (es_seq (es_drop (ex_callD (ps := P_check_rules) d_check_rules hr (by decide) hq rfl (takes_of rfl rfl rfl rfl) (ea_cons (ex_var (pv 1)) (ea_nil))))
      (es_one (es_ret (ex_callD (ps := P_parted) d_parted hr (by decide) hq rfl (takes_of rfl rfl rfl rfl) (ea_cons (ex_var (pv 0)) (ea_cons (ex_var (pv 1)) (ea_nil)))))))), hm, Fn.kp, hb⟩
theorem ok_needless (Z : Zs K mg) (Er : Es P K mg Bn fn) (d_check_rules : Def0 P w K mg base 4 "check_rules" P_check_rules F_check_rules) (d_parted : Def0 P w K mg base 6 "parted" P_parted F_parted) {f : Addr} {fd : FuncData} (Fn : Fun K "needless" "needless" st_needless f fd) (hm : mg "needless" = some (.ref f)) (hb : Binds K fd P_needless []) : Def0 P w K mg base 7 "needless" P_needless F_needless :=
  ⟨f, fd, fnG_pure Fn S_needless (fun ds _ => rfl) (fun cdv A outer s H E hr hq =>
    have hu := hr.units
    es_seq (es_drop (ex_callD (ps := P_check_rules) d_check_rules hr (by decide) hq rfl (takes_of rfl rfl rfl rfl) (ea_cons (ex_var (pv 0)) (ea_nil))))
      (es_one (es_ret (EN.ex (en_comp rfl S_needless.nd (own := [("k", 1)]) (ei_rng1 rfl Z.z_range (ea_cons (ex_blt cr_lenD rfl Z.z_len rfl (ea_cons (ex_var (pv 0)) (ea_nil))) (ea_nil))) (blkOk_by (own := [("k", 1)]) (N := N_needless) (sc := defScope st_needless) (by decide +kernel)) (us := [1]) (by decide) (fun _ _ _ _ _ => eg_name (i := 1) S_needless.nd rfl (by first | exact .inl rfl | exact .inr rfl)) (fun _ _ _ _ _ => eq_one (et_isN (ex_callD (ps := P_parted) d_parted hr (by decide) hq rfl takes0 (ea_cons (ex_var (pv 0)) (ea_cons (ex_bin op_addD (ex_slice (ex_var (pv 0)) (eo_none) (eo_some (ex_var (pv 1)))) (ex_slice (ex_var (pv 0)) (eo_some (ex_bin op_addD (ex_var (pv 1)) (ex_int))) (eo_none))) (ea_nil)))))) (fun _ _ _ _ _ => ex_var (pv 1))))))), hm, Fn.kp, hb⟩
theorem ok_fewer (Z : Zs K mg) (Er : Es P K mg Bn fn) (d_check_rules : Def0 P w K mg base 4 "check_rules" P_check_rules F_check_rules) (d_parted : Def0 P w K mg base 6 "parted" P_parted F_parted) {f : Addr} {fd : FuncData} (Fn : Fun K "fewer" "fewer" st_fewer f fd) (hm : mg "fewer" = some (.ref f)) (hb : Binds K fd P_fewer []) : Def0 P w K mg base 7 "fewer" P_fewer F_fewer :=
  ⟨f, fd, fnG_pure Fn S_fewer (fun ds _ => rfl) (fun cdv A outer s H E hr hq =>
    have hu := hr.units
    es_seq (es_drop (ex_callD (ps := P_check_rules) d_check_rules hr (by decide) hq rfl (takes_of rfl rfl rfl rfl) (ea_cons (ex_var (pv 0)) (ea_nil))))
      (es_seq (es_set (i := 1) S_fewer.nd rfl (by first | exact .inl rfl | exact .inr rfl) (EN.ex (en_bty cr_list rfl Z.z_list rfl (ea_cons (ex_var (pv 0)) (ea_nil)))))
      (es_seq (es_for (vs := [2]) PassesOwn.leaving rfl (ei_rng3 rfl Z.z_range (ea_cons (ex_bin op_subD (ex_blt cr_lenD rfl Z.z_len rfl (ea_cons (ex_var (pv 0)) (ea_nil))) (ex_int)) (ea_cons (ex_un un_negD (ex_int)) (ea_cons (ex_un un_negD (ex_int)) (ea_nil))))) (eg_name (i := 2) S_fewer.nd rfl (by first | exact .inl rfl | exact .inr rfl)) (es_seq (es_set (i := 3) S_fewer.nd rfl (by first | exact .inl rfl | exact .inr rfl) (ex_bin op_addD (ex_slice (ex_var (pv 1)) (eo_none) (eo_some (ex_var (pv 2)))) (ex_slice (ex_var (pv 1)) (eo_some (ex_bin op_addD (ex_var (pv 2)) (ex_int))) (eo_none))))
      (es_one (es_if (et_isN (ex_callD (ps := P_parted) d_parted hr (by decide) hq rfl (takes_of rfl rfl rfl rfl) (ea_cons (ex_var (pv 1)) (ea_cons (ex_var (pv 3)) (ea_nil))))) (es_one (es_set (i := 1) S_fewer.nd rfl (by first | exact .inl rfl | exact .inr rfl) (ex_var (pv 3)))) (es_nil)))))
      (es_one (es_ret (ex_var (pv 1))))))), hm, Fn.kp, hb⟩
theorem ok__law_fault (Z : Zs K mg) (Er : Es P K mg Bn fn) (d_lets : Def0 P w K mg base 6 "lets" P_lets F_lets) (d_unlike : Def0 P w K mg base 7 "unlike" P_unlike F_unlike) (d_check_rules : Def0 P w K mg base 4 "check_rules" P_check_rules F_check_rules) (d_never_fits : Def0 P w K mg base 5 "never_fits" P_never_fits F_never_fits) (d_needless : Def0 P w K mg base 7 "needless" P_needless F_needless) (d_fewer : Def0 P w K mg base 7 "fewer" P_fewer F_fewer) {f : Addr} {fd : FuncData} (Fn : Fun K "_law_fault" "_law_fault" st__law_fault f fd) (hm : mg "_law_fault" = some (.ref f)) (hb : Binds K fd P__law_fault []) : Def0 P w K mg base 8 "_law_fault" P__law_fault F__law_fault :=
  ⟨f, fd, fnG_pure Fn S__law_fault (fun ds _ => rfl) (fun cdv A outer s H E hr hq =>
    have hu := hr.units
    es_seq ((by obtain ⟨D0, g0, _⟩ := Er.c_BadRule; obtain ⟨D1, g1, _⟩ := Er.c_TooMany; exact es_try rfl rfl S__law_fault.nd (takes_of rfl rfl rfl rfl) (fun W pn xe tk hp => es_one (es_if (et_cmp (op_eqD' hu) (ex_var (pv 0)) (ex_int)) (es_one (es_drop (ex_callD (ps := P_lets) d_lets hr (by decide) hq rfl tk (ea_cons (ex_var (pv 1)) (ea_cons (ex_int) (ea_cons (ex_int) (ea_cons (ex_int) (ea_nil)))))))) (es_one (es_if (et_cmp (op_eqD' hu) (ex_var (pv 0)) (ex_int)) (es_one (es_drop (ex_callD (ps := P_unlike) d_unlike hr (by decide) hq rfl tk (ea_cons (EN.ex (en_lst (ea_nil))) (ea_cons (ex_var (pv 1)) (ea_nil)))))) (es_one (es_drop (ex_callFs (fs_cons (ps := P_check_rules) d_check_rules (by decide) rfl (fs_cons (ps := P_never_fits) d_never_fits (by decide) rfl (fs_cons (ps := P_needless) d_needless (by decide) rfl (fs_cons (ps := P_fewer) d_fewer (by decide) rfl (fs_nil))))) (by decide) hr hq tk (ex_bin op_subD (ex_var (pv 0)) (ex_int)) (ea_cons (ex_var (pv 1)) (ea_nil)) (fun _ _ => rfl)))))))) (.cons rfl rfl ⟨rfl, by decide, .inl g0⟩ (all_cons (let ⟨C, a, b, c⟩ := Er.x_BadRule_BadRule _ g0; ⟨_, _, C, a, b, c⟩) (all_nil)) (all_cons (let ⟨C, a, _, c⟩ := Er.x_TooMany_BadRule _ g0; ⟨C, a, c⟩) (all_nil)) (su_pair (fun _ _ _ => pv 2)) (.cons rfl rfl ⟨rfl, by decide, .inl g1⟩ (all_cons (let ⟨C, a, b, c⟩ := Er.x_TooMany_TooMany _ g1; ⟨_, _, C, a, b, c⟩) (all_nil)) (all_cons (let ⟨C, a, _, c⟩ := Er.x_BadRule_TooMany _ g1; ⟨C, a, c⟩) (all_nil)) (su_pair (fun _ _ _ => pv 2)) (.nil)))))
      (es_one (es_ret (ex_tup (ea_cons (ex_str) (ea_cons (ex_int) (ea_nil))))))), hm, Fn.kp, hb⟩
theorem fn_law (Z : Zs K mg) (Er : Es P K mg Bn fn) (d__law_rules : Def0 P w K mg base 2 "_law_rules" P__law_rules F__law_rules) (d__law_corners : Def0 P w K mg base 2 "_law_corners" P__law_corners F__law_corners) (d__law_mix : Def0 P w K mg base 1 "_law_mix" P__law_mix F__law_mix) (d__law_unlike : Def0 P w K mg base 4 "_law_unlike" P__law_unlike F__law_unlike) (d_unlike : Def0 P w K mg base 7 "unlike" P_unlike F_unlike) (d__law_fault : Def0 P w K mg base 8 "_law_fault" P__law_fault F__law_fault) (d_lets : Def0 P w K mg base 6 "lets" P_lets F_lets) (d__law_passes : Def0 P w K mg base 3 "_law_passes" P__law_passes F__law_passes) (d_never_fits : Def0 P w K mg base 5 "never_fits" P_never_fits F_never_fits) (d_needless : Def0 P w K mg base 7 "needless" P_needless F_needless) (d_fewer : Def0 P w K mg base 7 "fewer" P_fewer F_fewer) (d__law_holds : Def0 P w K mg base 2 "_law_holds" P__law_holds F__law_holds) (d__law_draws : DefS P w K mg base 1 "_law_draws" P__law_draws F__law_draws) {f : Addr} {fd : FuncData} (Fn : Fun K "law" "law" st_law f fd) : FnG P w K mg base 9 f fd P_law (spS K w mg F_law) :=
  fnG_script Fn S_law rfl (by decide) (fun cdv A outer s H E hr hq =>
    have hu := hr.units
    es_seq (es_set (i := 1) S_law.nd rfl (by first | exact .inl rfl | exact .inr rfl) (ex_callS d__law_draws hr (by decide) hq rfl (takes_of rfl rfl rfl rfl) (pv 0)))
      (es_seq (es_set (i := 2) S_law.nd rfl (by first | exact .inl rfl | exact .inr rfl) (ex_callD (ps := P__law_rules) d__law_rules hr (by decide) hq rfl (takes_of rfl rfl rfl rfl) (ea_cons (ex_var (pv 1)) (ea_cons (ex_int) (ea_cons (ex_int) (ea_nil))))))
      (es_seq (es_set (i := 3) S_law.nd rfl (by first | exact .inl rfl | exact .inr rfl) (ex_blt (cr_reprD hq hu) rfl Z.z_repr rfl (ea_cons (ex_var (pv 2)) (ea_nil))))
      (es_seq (es_set (i := 4) S_law.nd rfl (by first | exact .inl rfl | exact .inr rfl) (ex_callD (ps := P__law_corners) d__law_corners hr (by decide) hq rfl (takes_of rfl rfl rfl rfl) (ea_cons (ex_var (pv 2)) (ea_nil))))
      (es_seq (es_set (i := 5) S_law.nd rfl (by first | exact .inl rfl | exact .inr rfl) (EN.ex (en_lst (ea_nil))))
      (es_seq (es_for (vs := [13, 14, 15]) PassesOwn.leaving rfl (ei_seq (ex_var (pv 4))) (eg_tup rfl (egs_cons (eg_name (i := 13) S_law.nd rfl (by first | exact .inl rfl | exact .inr rfl)) (egs_cons (eg_name (i := 14) S_law.nd rfl (by first | exact .inl rfl | exact .inr rfl)) (egs_cons (eg_name (i := 15) S_law.nd rfl (by first | exact .inl rfl | exact .inr rfl)) (egs_nil)))) (glCons_len (glCons_len (glCons_len (glNil_len))))) (es_seq (es_setComp (i := 11) rfl S_law.nd rfl rfl (sw_true rfl rfl rfl (by decide +kernel)) (own := [("k", 9)]) (ei_rng1 rfl Z.z_range (ea_cons (ex_blt cr_lenD rfl Z.z_len rfl (ea_cons (ex_var (pv 2)) (ea_nil))) (ea_nil))) (blkOk_by (own := [("k", 9)]) (N := N_law) (sc := defScope st_law) (by decide +kernel)) (us := [9]) (by decide) (fun _ _ _ _ _ => eg_name (i := 9) S_law.nd rfl (by first | exact .inl rfl | exact .inr rfl)) (fun _ _ _ _ _ => eq_one (et_bool (ew_and (et_val (ex_callD (ps := P__law_holds) d__law_holds hr (by decide) hq rfl takes0 (ea_cons (ex_ix hu (ex_ix hu (ex_var (pv 2)) (ex_var (pv 9)) (fun _ _ => rfl)) (ex_int) (fun _ _ => rfl)) (ea_cons (ex_var (pv 13)) (ea_nil))))) (ew_and (et_val (ex_callD (ps := P__law_holds) d__law_holds hr (by decide) hq rfl takes0 (ea_cons (ex_ix hu (ex_ix hu (ex_var (pv 2)) (ex_var (pv 9)) (fun _ _ => rfl)) (ex_int) (fun _ _ => rfl)) (ea_cons (ex_var (pv 14)) (ea_nil))))) (ew_and1 (et_chain (op_leD hu) (op_leD hu) (ex_ix hu (ex_ix hu (ex_var (pv 2)) (ex_var (pv 9)) (fun _ _ => rfl)) (ex_int) (fun _ _ => rfl)) (ex_var (pv 15)) (ex_ix hu (ex_ix hu (ex_var (pv 2)) (ex_var (pv 9)) (fun _ _ => rfl)) (ex_int) (fun _ _ => rfl)))))))) (fun _ _ _ _ _ => ex_var (pv 9)))
      (es_seq (es_set (i := 5) S_law.nd rfl (by first | exact .inl rfl | exact .inr rfl) (ex_bin op_addD (ex_var (pv 5)) (ex_slice (ex_var (pv 11)) (eo_none) (eo_some (ex_int)))))
      (es_one (es_if (et_cmp (op_neD' hu) (ex_blt (cr_reprD hq hu) rfl Z.z_repr rfl (ea_cons (ex_callD (ps := P_lets) d_lets hr (by decide) hq rfl (takes_of rfl rfl rfl rfl) (ea_cons (ex_var (pv 2)) (ea_cons (ex_var (pv 13)) (ea_cons (ex_var (pv 14)) (ea_cons (ex_var (pv 15)) (ea_nil)))))) (ea_nil))) (ex_blt (cr_reprD hq hu) rfl Z.z_repr rfl (ea_cons (ex_callD (ps := P__law_passes) d__law_passes hr (by decide) hq rfl (takes_of rfl rfl rfl rfl) (ea_cons (ex_var (pv 2)) (ea_cons (ex_var (pv 13)) (ea_cons (ex_var (pv 14)) (ea_cons (ex_var (pv 15)) (ea_nil)))))) (ea_nil)))) (es_one (es_ret (ex_bl))) (es_nil))))))
      (es_seq (es_for (vs := [6]) PassesOwn.leaving rfl (ei_rng1 rfl Z.z_range (ea_cons (ex_int) (ea_nil))) (eg_name (i := 6) S_law.nd rfl (by first | exact .inl rfl | exact .inr rfl)) (es_seq (es_set (i := 16) S_law.nd rfl (by first | exact .inl rfl | exact .inr rfl) (ex_tup (ea_cons (ex_callD (ps := P__law_mix) d__law_mix hr (by decide) hq rfl (takes_of rfl rfl rfl rfl) (ea_cons (ex_var (pv 1)) (ea_cons (ex_bin op_addD (ex_int) (ex_var (pv 6))) (ea_cons (ex_int) (ea_nil))))) (ea_cons (ex_callD (ps := P__law_mix) d__law_mix hr (by decide) hq rfl (takes_of rfl rfl rfl rfl) (ea_cons (ex_var (pv 1)) (ea_cons (ex_bin op_addD (ex_int) (ex_var (pv 6))) (ea_cons (ex_int) (ea_nil))))) (ea_cons (ex_callD (ps := P__law_mix) d__law_mix hr (by decide) hq rfl (takes_of rfl rfl rfl rfl) (ea_cons (ex_var (pv 1)) (ea_cons (ex_bin op_addD (ex_int) (ex_var (pv 6))) (ea_cons (ex_int) (ea_nil))))) (ea_nil))))))
      (es_one (es_if (et_cmp (op_neD' hu) (ex_blt (cr_reprD hq hu) rfl Z.z_repr rfl (ea_cons (ex_callD (ps := P_lets) d_lets hr (by decide) hq rfl (takes_of rfl rfl rfl rfl) (ea_cons (ex_var (pv 2)) (ea_cons (ex_ix hu (ex_var (pv 16)) (ex_int) (fun _ _ => rfl)) (ea_cons (ex_ix hu (ex_var (pv 16)) (ex_int) (fun _ _ => rfl)) (ea_cons (ex_ix hu (ex_var (pv 16)) (ex_int) (fun _ _ => rfl)) (ea_nil)))))) (ea_nil))) (ex_blt (cr_reprD hq hu) rfl Z.z_repr rfl (ea_cons (ex_callD (ps := P__law_passes) d__law_passes hr (by decide) hq rfl (takes_of rfl rfl rfl rfl) (ea_cons (ex_var (pv 2)) (ea_cons (ex_ix hu (ex_var (pv 16)) (ex_int) (fun _ _ => rfl)) (ea_cons (ex_ix hu (ex_var (pv 16)) (ex_int) (fun _ _ => rfl)) (ea_cons (ex_ix hu (ex_var (pv 16)) (ex_int) (fun _ _ => rfl)) (ea_nil)))))) (ea_nil)))) (es_one (es_ret (ex_bl))) (es_nil)))))
      (es_seq (es_setComp (i := 7) rfl S_law.nd rfl rfl (sw_true rfl rfl rfl (by decide +kernel)) (own := [("k", 9)]) (ei_rng1 rfl Z.z_range (ea_cons (ex_blt cr_lenD rfl Z.z_len rfl (ea_cons (ex_var (pv 2)) (ea_nil))) (ea_nil))) (blkOk_by (own := [("k", 9)]) (N := N_law) (sc := defScope st_law) (by decide +kernel)) (us := [9]) (by decide) (fun _ _ _ _ _ => eg_name (i := 9) S_law.nd rfl (by first | exact .inl rfl | exact .inr rfl)) (fun _ _ _ _ _ => eq_one (et_isN (ex_callD (ps := P__law_unlike) d__law_unlike hr (by decide) hq rfl takes0 (ea_cons (ex_var (pv 2)) (ea_cons (ex_bin op_addD (ex_slice (ex_var (pv 2)) (eo_none) (eo_some (ex_var (pv 9)))) (ex_slice (ex_var (pv 2)) (eo_some (ex_bin op_addD (ex_var (pv 9)) (ex_int))) (eo_none))) (ea_nil)))))) (fun _ _ _ _ _ => ex_var (pv 9)))
      (es_seq (es_if (et_bool (ew_or (et_cmp (op_neD' hu) (ex_blt (cr_reprD hq hu) rfl Z.z_repr rfl (ea_cons (ex_callD (ps := P_never_fits) d_never_fits hr (by decide) hq rfl (takes_of rfl rfl rfl rfl) (ea_cons (ex_var (pv 2)) (ea_nil))) (ea_nil))) (ex_blt (cr_reprD hq hu) rfl Z.z_repr rfl (ea_cons (EN.ex (en_comp rfl S_law.nd (own := [("k", 9)]) (ei_rng1 rfl Z.z_range (ea_cons (ex_blt cr_lenD rfl Z.z_len rfl (ea_cons (ex_var (pv 2)) (ea_nil))) (ea_nil))) (blkOk_by (own := [("k", 9)]) (N := N_law) (sc := defScope st_law) (by decide +kernel)) (us := [9]) (by decide) (fun _ _ _ _ _ => eg_name (i := 9) S_law.nd rfl (by first | exact .inl rfl | exact .inr rfl)) (fun _ _ _ _ _ => eq_one (et_cmp (op_ninD' hu) (ex_var (pv 9)) (ex_var (pv 5)))) (fun _ _ _ _ _ => ex_var (pv 9)))) (ea_nil)))) (ew_or1 (et_cmp (op_neD' hu) (ex_blt (cr_reprD hq hu) rfl Z.z_repr rfl (ea_cons (ex_callD (ps := P_needless) d_needless hr (by decide) hq rfl (takes_of rfl rfl rfl rfl) (ea_cons (ex_var (pv 2)) (ea_nil))) (ea_nil))) (ex_blt (cr_reprD hq hu) rfl Z.z_repr rfl (ea_cons (ex_var (pv 7)) (ea_nil))))))) (es_one (es_ret (ex_bl))) (es_nil))
      (es_seq (es_set (i := 8) S_law.nd rfl (by first | exact .inl rfl | exact .inr rfl) (EN.ex (en_bty cr_list rfl Z.z_list rfl (ea_cons (ex_var (pv 2)) (ea_nil)))))
      (es_seq (es_for (vs := [9]) PassesOwn.leaving rfl (ei_rng3 rfl Z.z_range (ea_cons (ex_bin op_subD (ex_blt cr_lenD rfl Z.z_len rfl (ea_cons (ex_var (pv 2)) (ea_nil))) (ex_int)) (ea_cons (ex_un un_negD (ex_int)) (ea_cons (ex_un un_negD (ex_int)) (ea_nil))))) (eg_name (i := 9) S_law.nd rfl (by first | exact .inl rfl | exact .inr rfl)) (es_seq (es_set (i := 17) S_law.nd rfl (by first | exact .inl rfl | exact .inr rfl) (ex_bin op_addD (ex_slice (ex_var (pv 8)) (eo_none) (eo_some (ex_var (pv 9)))) (ex_slice (ex_var (pv 8)) (eo_some (ex_bin op_addD (ex_var (pv 9)) (ex_int))) (eo_none))))
      (es_one (es_if (et_isN (ex_callD (ps := P__law_unlike) d__law_unlike hr (by decide) hq rfl (takes_of rfl rfl rfl rfl) (ea_cons (ex_var (pv 8)) (ea_cons (ex_var (pv 17)) (ea_nil))))) (es_one (es_set (i := 8) S_law.nd rfl (by first | exact .inl rfl | exact .inr rfl) (ex_var (pv 17)))) (es_nil)))))
      (es_seq (es_if (et_bool (ew_or (et_cmp (op_neD' hu) (ex_blt (cr_reprD hq hu) rfl Z.z_repr rfl (ea_cons (ex_callD (ps := P_fewer) d_fewer hr (by decide) hq rfl (takes_of rfl rfl rfl rfl) (ea_cons (ex_var (pv 2)) (ea_nil))) (ea_nil))) (ex_blt (cr_reprD hq hu) rfl Z.z_repr rfl (ea_cons (ex_var (pv 8)) (ea_nil)))) (ew_or (et_notN (ex_callD (ps := P__law_unlike) d__law_unlike hr (by decide) hq rfl (takes_of rfl rfl rfl rfl) (ea_cons (ex_var (pv 2)) (ea_cons (ex_var (pv 8)) (ea_nil))))) (ew_or1 (et_notN (ex_callD (ps := P_unlike) d_unlike hr (by decide) hq rfl (takes_of rfl rfl rfl rfl) (ea_cons (ex_var (pv 2)) (ea_cons (ex_var (pv 8)) (ea_nil))))))))) (es_one (es_ret (ex_bl))) (es_nil))
      (es_seq (es_set (i := 10) S_law.nd rfl (by first | exact .inl rfl | exact .inr rfl) (ex_callD (ps := P__law_rules) d__law_rules hr (by decide) hq rfl (takes_of rfl rfl rfl rfl) (ea_cons (ex_var (pv 1)) (ea_cons (ex_int) (ea_cons (ex_int) (ea_nil))))))
      (es_seq (es_if (et_bool (ew_or (et_cmp (op_neD' hu) (ex_blt (cr_reprD hq hu) rfl Z.z_repr rfl (ea_cons (ex_callD (ps := P_unlike) d_unlike hr (by decide) hq rfl (takes_of rfl rfl rfl rfl) (ea_cons (ex_var (pv 2)) (ea_cons (ex_var (pv 10)) (ea_nil)))) (ea_nil))) (ex_blt (cr_reprD hq hu) rfl Z.z_repr rfl (ea_cons (ex_callD (ps := P__law_unlike) d__law_unlike hr (by decide) hq rfl (takes_of rfl rfl rfl rfl) (ea_cons (ex_var (pv 2)) (ea_cons (ex_var (pv 10)) (ea_nil)))) (ea_nil)))) (ew_or1 (et_cmp (op_neD' hu) (ex_blt (cr_reprD hq hu) rfl Z.z_repr rfl (ea_cons (ex_var (pv 2)) (ea_nil))) (ex_var (pv 3)))))) (es_one (es_ret (ex_bl))) (es_nil))
      (es_seq (es_set (i := 11) S_law.nd rfl (by first | exact .inl rfl | exact .inr rfl) (ex_tup (ea_cons (ex_str) (ea_cons (ex_tup (ea_cons (ex_int) (ea_cons (ex_int) (ea_nil)))) (ea_cons (ex_tup (ea_cons (ex_int) (ea_cons (ex_int) (ea_nil)))) (ea_cons (ex_int) (ea_cons (ex_int) (ea_nil))))))))
      (es_seq (es_for (vs := [12]) PassesOwn.leaving rfl (ei_rng1 rfl Z.z_range (ea_cons (ex_int) (ea_nil))) (eg_name (i := 12) S_law.nd rfl (by first | exact .inl rfl | exact .inr rfl)) (es_seq (es_if (et_cmp (op_neD' hu) (ex_callD (ps := P__law_fault) d__law_fault hr (by decide) hq rfl (takes_of rfl rfl rfl rfl) (ea_cons (ex_var (pv 12)) (ea_cons (ex_bin op_mulD (EN.ex (en_lst (ea_cons (ex_var (pv 11)) (ea_nil)))) (ex_int)) (ea_nil)))) (ex_tup (ea_cons (ex_str) (ea_cons (ex_int) (ea_nil))))) (es_one (es_ret (ex_bl))) (es_nil))
      (es_one (es_for (vs := [18]) PassesOwn.leaving rfl (ei_seq (EN.ex (en_lst (ea_cons (ex_tup (ea_cons (ex_str) (ea_cons (ex_tup (ea_cons (ex_int) (ea_cons (ex_int) (ea_nil)))) (ea_cons (ex_tup (ea_cons (ex_int) (ea_cons (ex_int) (ea_nil)))) (ea_cons (ex_int) (ea_cons (ex_int) (ea_nil))))))) (ea_cons (ex_tup (ea_cons (ex_str) (ea_cons (ex_tup (ea_cons (ex_int) (ea_cons (ex_int) (ea_nil)))) (ea_cons (ex_tup (ea_cons (ex_int) (ea_cons (ex_int) (ea_nil)))) (ea_cons (ex_int) (ea_cons (ex_int) (ea_nil))))))) (ea_cons (ex_tup (ea_cons (ex_str) (ea_cons (ex_tup (ea_cons (ex_int) (ea_cons (ex_int) (ea_nil)))) (ea_cons (ex_tup (ea_cons (ex_int) (ea_cons (ex_int) (ea_nil)))) (ea_cons (ex_int) (ea_cons (ex_int) (ea_nil))))))) (ea_cons (ex_tup (ea_cons (ex_str) (ea_cons (ex_tup (ea_cons (ex_int) (ea_cons (ex_int) (ea_nil)))) (ea_cons (ex_tup (ea_cons (ex_int) (ea_cons (ex_int) (ea_nil)))) (ea_cons (ex_int) (ea_cons (ex_int) (ea_nil))))))) (ea_cons (ex_tup (ea_cons (ex_str) (ea_cons (ex_tup (ea_cons (ex_int) (ea_cons (ex_int) (ea_nil)))) (ea_cons (ex_tup (ea_cons (ex_int) (ea_cons (ex_int) (ea_nil)))) (ea_cons (ex_int) (ea_cons (ex_int) (ea_nil))))))) (ea_nil))))))))) (eg_name (i := 18) S_law.nd rfl (by first | exact .inl rfl | exact .inr rfl)) (es_one (es_if (et_cmp (op_neD' hu) (ex_callD (ps := P__law_fault) d__law_fault hr (by decide) hq rfl (takes_of rfl rfl rfl rfl) (ea_cons (ex_var (pv 12)) (ea_cons (EN.ex (en_lst (ea_cons (ex_var (pv 11)) (ea_cons (ex_var (pv 18)) (ea_nil))))) (ea_nil)))) (ex_tup (ea_cons (ex_str) (ea_cons (ex_int) (ea_nil))))) (es_one (es_ret (ex_bl))) (es_nil)))))))
      (es_one (es_ret (ex_and (ex_cmp op_isBD (ex_callD (ps := P_lets) d_lets hr (by decide) hq rfl (takes_of rfl rfl rfl rfl) (ea_cons (EN.ex (en_lst (ea_nil))) (ea_cons (ex_int) (ea_cons (ex_int) (ea_cons (ex_int) (ea_nil)))))) (ex_bl)) (ex_one (ex_cmp op_isBD (ex_callD (ps := P_lets) d_lets hr (by decide) hq rfl (takes_of rfl rfl rfl rfl) (ea_cons (EN.ex (en_lst (ea_cons (ex_tup (ea_cons (ex_str) (ea_cons (ex_tup (ea_cons (ex_int) (ea_cons (ex_int) (ea_nil)))) (ea_cons (ex_tup (ea_cons (ex_int) (ea_cons (ex_int) (ea_nil)))) (ea_cons (ex_int) (ea_cons (ex_int) (ea_nil))))))) (ea_nil)))) (ea_cons (ex_int) (ea_cons (ex_int) (ea_cons (ex_int) (ea_nil)))))) (ex_bl))))))))))))))))))))))
end
section
theorem all_mk {l : PySem.W.OpenLaw} {w : World} {K : PySem.W.Frag} {h : Heap} {mg : Str → Option Value} {fa f0 f1 f2 f3 f4 f5 f6 f7 f8 f9 f10 f11 f12 f13 f14 f15 f16 f17 f18 f19 f20 f21 f22 f23 f24 f25 f26 f27 : Addr} (X : K.In h) (G : h.Ns mainGlobals mg) (hfa : mg "law" = some (.ref fa))
    {od0 an0 od1 an1 od2 an2 od3 an3 od4 an4 od5 an5 od6 an6 od7 an7 od8 an8 od9 an9 od10 an10 od11 an11 od12 an12 od13 an13 od14 an14 od15 an15 od16 an16 od17 an17 od18 an18 od19 an19 od20 an20 od21 an21 od22 an22 od23 an23 od24 an24 od25 an25 od26 an26 od27 an27 : Option Addr} {sl0 sl1 sl2 sl3 sl4 sl5 sl6 sl7 sl8 sl9 sl10 sl11 sl12 sl13 sl14 sl15 sl16 sl17 sl18 sl19 sl20 sl21 sl22 sl23 sl24 sl25 sl26 sl27 : Array (Option Value)} {oc0 kV0 dc0 pm0 cd0 ct0 oc1 kV1 dc1 pm1 cd1 ct1 oc2 kV2 dc2 pm2 cd2 ct2 oc3 kV3 dc3 pm3 cd3 ct3 oc4 kV4 dc4 pm4 cd4 ct4 oc5 kV5 dc5 pm5 cd5 ct5 oc6 kV6 dc6 pm6 cd6 ct6 oc7 kV7 dc7 pm7 cd7 ct7 oc8 kV8 dc8 pm8 cd8 ct8 oc9 kV9 dc9 pm9 cd9 ct9 oc10 kV10 dc10 pm10 cd10 ct10 oc11 kV11 dc11 pm11 cd11 ct11 oc12 kV12 dc12 pm12 cd12 ct12 oc13 kV13 dc13 pm13 cd13 ct13 oc14 kV14 dc14 pm14 cd14 ct14 oc15 kV15 dc15 pm15 cd15 ct15 oc16 kV16 dc16 pm16 cd16 ct16 oc17 kV17 dc17 pm17 cd17 ct17 oc18 kV18 dc18 pm18 cd18 ct18 oc19 kV19 dc19 pm19 cd19 ct19 oc20 kV20 dc20 pm20 cd20 ct20 oc21 kV21 dc21 pm21 cd21 ct21 oc22 kV22 dc22 pm22 cd22 ct22 oc23 kV23 dc23 pm23 cd23 ct23 oc24 kV24 dc24 pm24 cd24 ct24 oc25 kV25 dc25 pm25 cd25 ct25 oc26 kV26 dc26 pm26 cd26 ct26 oc27 kV27 dc27 pm27 cd27 ct27 : Value}
    {tt_WORDS : Addr} {td_WORDS : Option Addr} {tn_WORDS : Nat} {ts_WORDS : Array (Option Value)} {tk_WORDS_0 tk_WORDS_1 : Tok}
    {t_BITS t_ADDRESSES t_MARKS t_MOST_RULES : Tok}
    {eF ecda ecc : Addr} {eoc ekV edc epm ect eccl ecl : Value} {eod ean ecdd ecld : Option Addr} {eosl eccs ecsl : Array (Option Value)} {evs : Array Value} {efile : Str} {etf : Tok} {ecdB : ClassData} {C_NetError C_TooMany C_BadRule : Addr}
    {nm_NetError q_NetError : Str} {N_NetError : Addr} {bs_NetError sub_NetError : List Value} {sn_NetError : List Str} {ab_NetError : Bool} {col_NetError : Option Bool} {dd_NetError : Option Addr} {m0_NetError m1_NetError m2_NetError m3_NetError m5_NetError : Option Value}
    {nm_TooMany q_TooMany : Str} {N_TooMany : Addr} {bs_TooMany sub_TooMany : List Value} {sn_TooMany : List Str} {ab_TooMany : Bool} {col_TooMany : Option Bool} {dd_TooMany : Option Addr} {m0_TooMany m1_TooMany m2_TooMany m3_TooMany m5_TooMany : Option Value}
    {nm_BadRule q_BadRule : Str} {N_BadRule : Addr} {bs_BadRule sub_BadRule : List Value} {sn_BadRule : List Str} {ab_BadRule : Bool} {col_BadRule : Option Bool} {dd_BadRule : Option Addr} {m0_BadRule m1_BadRule m2_BadRule m3_BadRule m5_BadRule : Option Value}
    (a_NetError : PySem.W.nsIn K mainGlobals "NetError" = some (some (.ref C_NetError)))
    (a_TooMany : PySem.W.nsIn K mainGlobals "TooMany" = some (some (.ref C_TooMany)))
    (a_BadRule : PySem.W.nsIn K mainGlobals "BadRule" = some (some (.ref C_BadRule)))
    (xL_NetError : K.lookup C_NetError = some (excClassObj nm_NetError q_NetError C_NetError N_NetError bs_NetError [.type "ValueError", .type "Exception", .type "BaseException", .type "object"] true sn_NetError sub_NetError ab_NetError col_NetError dd_NetError m0_NetError m1_NetError m2_NetError m3_NetError m5_NetError "ValueError.__new__"))
    (sa_NetError : PySem.W.findIn K (.ref C_NetError) "__setattr__" = some (some (.builtin "object.__setattr__")))
    (ga_NetError : PySem.W.findIn K (.ref C_NetError) "__getattribute__" = some (some (.builtin "BaseException.__getattribute__")))
    (gg_NetError : PySem.W.findIn K (.ref C_NetError) "__getattr__" = some none)
    (nb_NetError : PySem.W.findIn K (.ref C_NetError) "at" = some none)
    (iC_NetError : PySem.W.findIn K (.ref C_NetError) "__init__" = some (some (.ref eF)))
    (kC_NetError : PySem.W.keepIn K (.ref C_NetError) = true)
    (eC_NetError : PySem.W.subIn K (.ref C_NetError) (.type "BaseException") = some true)
    (vC_NetError : PySem.W.subIn K (.ref C_NetError) (.type "ValueError") = some true)
    (tC_NetError : PySem.W.typeIn K (.ref C_NetError) = some (.type "type"))
    (hC_NetError : PySem.W.hasDictIn K C_NetError = true)
    (mB_NetError : PySem.W.mroIn K C_NetError (.ref C_NetError) = some true)
    (su_NetError : PySem.W.ks_superIn K C_NetError C_NetError "__init__" = some (some (.builtin "ValueError.__init__")))
    (xL_TooMany : K.lookup C_TooMany = some (excClassObj nm_TooMany q_TooMany C_TooMany N_TooMany bs_TooMany [.ref C_NetError, .type "ValueError", .type "Exception", .type "BaseException", .type "object"] true sn_TooMany sub_TooMany ab_TooMany col_TooMany dd_TooMany m0_TooMany m1_TooMany m2_TooMany m3_TooMany m5_TooMany "ValueError.__new__"))
    (sa_TooMany : PySem.W.findIn K (.ref C_TooMany) "__setattr__" = some (some (.builtin "object.__setattr__")))
    (ga_TooMany : PySem.W.findIn K (.ref C_TooMany) "__getattribute__" = some (some (.builtin "BaseException.__getattribute__")))
    (gg_TooMany : PySem.W.findIn K (.ref C_TooMany) "__getattr__" = some none)
    (nb_TooMany : PySem.W.findIn K (.ref C_TooMany) "at" = some none)
    (iC_TooMany : PySem.W.findIn K (.ref C_TooMany) "__init__" = some (some (.ref eF)))
    (kC_TooMany : PySem.W.keepIn K (.ref C_TooMany) = true)
    (eC_TooMany : PySem.W.subIn K (.ref C_TooMany) (.type "BaseException") = some true)
    (vC_TooMany : PySem.W.subIn K (.ref C_TooMany) (.type "ValueError") = some true)
    (tC_TooMany : PySem.W.typeIn K (.ref C_TooMany) = some (.type "type"))
    (hC_TooMany : PySem.W.hasDictIn K C_TooMany = true)
    (mB_TooMany : PySem.W.mroIn K C_TooMany (.ref C_NetError) = some true)
    (su_TooMany : PySem.W.ks_superIn K C_TooMany C_NetError "__init__" = some (some (.builtin "ValueError.__init__")))
    (xL_BadRule : K.lookup C_BadRule = some (excClassObj nm_BadRule q_BadRule C_BadRule N_BadRule bs_BadRule [.ref C_NetError, .type "ValueError", .type "Exception", .type "BaseException", .type "object"] true sn_BadRule sub_BadRule ab_BadRule col_BadRule dd_BadRule m0_BadRule m1_BadRule m2_BadRule m3_BadRule m5_BadRule "ValueError.__new__"))
    (sa_BadRule : PySem.W.findIn K (.ref C_BadRule) "__setattr__" = some (some (.builtin "object.__setattr__")))
    (ga_BadRule : PySem.W.findIn K (.ref C_BadRule) "__getattribute__" = some (some (.builtin "BaseException.__getattribute__")))
    (gg_BadRule : PySem.W.findIn K (.ref C_BadRule) "__getattr__" = some none)
    (nb_BadRule : PySem.W.findIn K (.ref C_BadRule) "at" = some none)
    (iC_BadRule : PySem.W.findIn K (.ref C_BadRule) "__init__" = some (some (.ref eF)))
    (kC_BadRule : PySem.W.keepIn K (.ref C_BadRule) = true)
    (eC_BadRule : PySem.W.subIn K (.ref C_BadRule) (.type "BaseException") = some true)
    (vC_BadRule : PySem.W.subIn K (.ref C_BadRule) (.type "ValueError") = some true)
    (tC_BadRule : PySem.W.typeIn K (.ref C_BadRule) = some (.type "type"))
    (hC_BadRule : PySem.W.hasDictIn K C_BadRule = true)
    (mB_BadRule : PySem.W.mroIn K C_BadRule (.ref C_NetError) = some true)
    (su_BadRule : PySem.W.ks_superIn K C_BadRule C_NetError "__init__" = some (some (.builtin "ValueError.__init__")))
    (el : K.lookup eF = some ⟨eoc, eod, .func (PySem.W.ksFn "__init__" "NetError.__init__" (neA ⟨4, 17, 4, 21⟩ ⟨4, 23, 4, 25⟩) (neB ⟨5, 8, 5, 13⟩ ⟨5, 8, 5, 15⟩ ⟨5, 8, 5, 24⟩ ⟨5, 25, 5, 27⟩ ⟨5, 8, 5, 28⟩ ⟨5, 8, 5, 28⟩ ⟨6, 8, 6, 12⟩ ⟨6, 8, 6, 15⟩ ⟨6, 18, 6, 20⟩ ⟨6, 8, 6, 20⟩) neS .none ekV edc epm ean (.ref ecda) ect ecc), eosl⟩)
    (ec : PySem.W.codeIn K (.ref ecda) "NetError.__init__" = true)
    (eh : K.lookup ecda = some ⟨eccl, ecdd, .fields evs, eccs⟩)
    (ev : evs[2]? = some (.str efile etf))
    (ef : ((l.prog.main.file : Str) == efile) = true)
    (ecl : K.lookup ecc = some ⟨ecl, ecld, .cell (some (.ref C_NetError)), ecsl⟩)
    (ecB : PySem.W.clsIn K C_NetError = some ecdB)
    (esup : PySem.W.nsIn K mainGlobals "super" = some none)
    (etp : PySem.W.nsIn K PySem.cStatics "thirdparty.any" = some none)
    (etop : (l.prog.main.scope.names.lookup ("super" : Str)).isSome = false)
    (etI : PySem.W.typeIn K (.ref eF) = some (.type "function"))
    (ex_TooMany_TooMany : PySem.W.exmOne K (.ref C_TooMany) (.ref C_TooMany) = some true)
    (ex_BadRule_TooMany : PySem.W.exmOne K (.ref C_BadRule) (.ref C_TooMany) = some false)
    (ex_BadRule_BadRule : PySem.W.exmOne K (.ref C_BadRule) (.ref C_BadRule) = some true)
    (ex_TooMany_BadRule : PySem.W.exmOne K (.ref C_TooMany) (.ref C_BadRule) = some false)
    (a0 : PySem.W.nsIn K mainGlobals "width" = some (some (.ref f0))) (l0 : K.lookup f0 = some ⟨oc0, od0, .func (PySem.W.fnOf "width" "width" (defArgs st_width) (defBody st_width) (defScope st_width) .none kV0 dc0 pm0 an0 cd0 ct0), sl0⟩) (c0 : PySem.W.codeIn K cd0 "width" = true) (k0 : PySem.W.keepIn K (.ref f0) = true)
    (a1 : PySem.W.nsIn K mainGlobals "starts" = some (some (.ref f1))) (l1 : K.lookup f1 = some ⟨oc1, od1, .func (PySem.W.fnOf "starts" "starts" (defArgs st_starts) (defBody st_starts) (defScope st_starts) .none kV1 dc1 pm1 an1 cd1 ct1), sl1⟩) (c1 : PySem.W.codeIn K cd1 "starts" = true) (k1 : PySem.W.keepIn K (.ref f1) = true)
    (a2 : PySem.W.nsIn K mainGlobals "_law_draws" = some (some (.ref f2))) (l2 : K.lookup f2 = some ⟨oc2, od2, .func (PySem.W.fnOf "_law_draws" "_law_draws" (defArgs st__law_draws) (defBody st__law_draws) (defScope st__law_draws) .none kV2 dc2 pm2 an2 cd2 ct2), sl2⟩) (c2 : PySem.W.codeIn K cd2 "_law_draws" = true) (k2 : PySem.W.keepIn K (.ref f2) = true)
    (a3 : PySem.W.nsIn K mainGlobals "_law_mix" = some (some (.ref f3))) (l3 : K.lookup f3 = some ⟨oc3, od3, .func (PySem.W.fnOf "_law_mix" "_law_mix" (defArgs st__law_mix) (defBody st__law_mix) (defScope st__law_mix) .none kV3 dc3 pm3 an3 cd3 ct3), sl3⟩) (c3 : PySem.W.codeIn K cd3 "_law_mix" = true) (k3 : PySem.W.keepIn K (.ref f3) = true)
    (a4 : PySem.W.nsIn K mainGlobals "_law_two" = some (some (.ref f4))) (l4 : K.lookup f4 = some ⟨oc4, od4, .func (PySem.W.fnOf "_law_two" "_law_two" (defArgs st__law_two) (defBody st__law_two) (defScope st__law_two) .none kV4 dc4 pm4 an4 cd4 ct4), sl4⟩) (c4 : PySem.W.codeIn K cd4 "_law_two" = true) (k4 : PySem.W.keepIn K (.ref f4) = true)
    (a5 : PySem.W.nsIn K mainGlobals "is_prefix" = some (some (.ref f5))) (l5 : K.lookup f5 = some ⟨oc5, od5, .func (PySem.W.fnOf "is_prefix" "is_prefix" (defArgs st_is_prefix) (defBody st_is_prefix) (defScope st_is_prefix) .none kV5 dc5 pm5 an5 cd5 ct5), sl5⟩) (c5 : PySem.W.codeIn K cd5 "is_prefix" = true) (k5 : PySem.W.keepIn K (.ref f5) = true)
    (a6 : PySem.W.nsIn K mainGlobals "span" = some (some (.ref f6))) (l6 : K.lookup f6 = some ⟨oc6, od6, .func (PySem.W.fnOf "span" "span" (defArgs st_span) (defBody st_span) (defScope st_span) .none kV6 dc6 pm6 an6 cd6 ct6), sl6⟩) (c6 : PySem.W.codeIn K cd6 "span" = true) (k6 : PySem.W.keepIn K (.ref f6) = true)
    (a7 : PySem.W.nsIn K mainGlobals "holds" = some (some (.ref f7))) (l7 : K.lookup f7 = some ⟨oc7, od7, .func (PySem.W.fnOf "holds" "holds" (defArgs st_holds) (defBody st_holds) (defScope st_holds) .none kV7 dc7 pm7 an7 cd7 ct7), sl7⟩) (c7 : PySem.W.codeIn K cd7 "holds" = true) (k7 : PySem.W.keepIn K (.ref f7) = true)
    (a8 : PySem.W.nsIn K mainGlobals "_law_holds" = some (some (.ref f8))) (l8 : K.lookup f8 = some ⟨oc8, od8, .func (PySem.W.fnOf "_law_holds" "_law_holds" (defArgs st__law_holds) (defBody st__law_holds) (defScope st__law_holds) .none kV8 dc8 pm8 an8 cd8 ct8), sl8⟩) (c8 : PySem.W.codeIn K cd8 "_law_holds" = true) (k8 : PySem.W.keepIn K (.ref f8) = true)
    (a9 : PySem.W.nsIn K mainGlobals "_law_rules" = some (some (.ref f9))) (l9 : K.lookup f9 = some ⟨oc9, od9, .func (PySem.W.fnOf "_law_rules" "_law_rules" (defArgs st__law_rules) (defBody st__law_rules) (defScope st__law_rules) .none kV9 dc9 pm9 an9 cd9 ct9), sl9⟩) (c9 : PySem.W.codeIn K cd9 "_law_rules" = true) (k9 : PySem.W.keepIn K (.ref f9) = true)
    (a10 : PySem.W.nsIn K mainGlobals "_law_corners" = some (some (.ref f10))) (l10 : K.lookup f10 = some ⟨oc10, od10, .func (PySem.W.fnOf "_law_corners" "_law_corners" (defArgs st__law_corners) (defBody st__law_corners) (defScope st__law_corners) .none kV10 dc10 pm10 an10 cd10 ct10), sl10⟩) (c10 : PySem.W.codeIn K cd10 "_law_corners" = true) (k10 : PySem.W.keepIn K (.ref f10) = true)
    (a11 : PySem.W.nsIn K mainGlobals "is_rule" = some (some (.ref f11))) (l11 : K.lookup f11 = some ⟨oc11, od11, .func (PySem.W.fnOf "is_rule" "is_rule" (defArgs st_is_rule) (defBody st_is_rule) (defScope st_is_rule) .none kV11 dc11 pm11 an11 cd11 ct11), sl11⟩) (c11 : PySem.W.codeIn K cd11 "is_rule" = true) (k11 : PySem.W.keepIn K (.ref f11) = true)
    (a12 : PySem.W.nsIn K mainGlobals "fits" = some (some (.ref f12))) (l12 : K.lookup f12 = some ⟨oc12, od12, .func (PySem.W.fnOf "fits" "fits" (defArgs st_fits) (defBody st_fits) (defScope st_fits) .none kV12 dc12 pm12 an12 cd12 ct12), sl12⟩) (c12 : PySem.W.codeIn K cd12 "fits" = true) (k12 : PySem.W.keepIn K (.ref f12) = true)
    (a13 : PySem.W.nsIn K mainGlobals "corners" = some (some (.ref f13))) (l13 : K.lookup f13 = some ⟨oc13, od13, .func (PySem.W.fnOf "corners" "corners" (defArgs st_corners) (defBody st_corners) (defScope st_corners) .none kV13 dc13 pm13 an13 cd13 ct13), sl13⟩) (c13 : PySem.W.codeIn K cd13 "corners" = true) (k13 : PySem.W.keepIn K (.ref f13) = true)
    (a14 : PySem.W.nsIn K mainGlobals "_law_passes" = some (some (.ref f14))) (l14 : K.lookup f14 = some ⟨oc14, od14, .func (PySem.W.fnOf "_law_passes" "_law_passes" (defArgs st__law_passes) (defBody st__law_passes) (defScope st__law_passes) .none kV14 dc14 pm14 an14 cd14 ct14), sl14⟩) (c14 : PySem.W.codeIn K cd14 "_law_passes" = true) (k14 : PySem.W.keepIn K (.ref f14) = true)
    (a15 : PySem.W.nsIn K mainGlobals "check_rules" = some (some (.ref f15))) (l15 : K.lookup f15 = some ⟨oc15, od15, .func (PySem.W.fnOf "check_rules" "check_rules" (defArgs st_check_rules) (defBody st_check_rules) (defScope st_check_rules) .none kV15 dc15 pm15 an15 cd15 ct15), sl15⟩) (c15 : PySem.W.codeIn K cd15 "check_rules" = true) (k15 : PySem.W.keepIn K (.ref f15) = true)
    (a16 : PySem.W.nsIn K mainGlobals "first_fit" = some (some (.ref f16))) (l16 : K.lookup f16 = some ⟨oc16, od16, .func (PySem.W.fnOf "first_fit" "first_fit" (defArgs st_first_fit) (defBody st_first_fit) (defScope st_first_fit) .none kV16 dc16 pm16 an16 cd16 ct16), sl16⟩) (c16 : PySem.W.codeIn K cd16 "first_fit" = true) (k16 : PySem.W.keepIn K (.ref f16) = true)
    (a17 : PySem.W.nsIn K mainGlobals "triples_of" = some (some (.ref f17))) (l17 : K.lookup f17 = some ⟨oc17, od17, .func (PySem.W.fnOf "triples_of" "triples_of" (defArgs st_triples_of) (defBody st_triples_of) (defScope st_triples_of) .none kV17 dc17 pm17 an17 cd17 ct17), sl17⟩) (c17 : PySem.W.codeIn K cd17 "triples_of" = true) (k17 : PySem.W.keepIn K (.ref f17) = true)
    (a18 : PySem.W.nsIn K mainGlobals "_law_unlike" = some (some (.ref f18))) (l18 : K.lookup f18 = some ⟨oc18, od18, .func (PySem.W.fnOf "_law_unlike" "_law_unlike" (defArgs st__law_unlike) (defBody st__law_unlike) (defScope st__law_unlike) .none kV18 dc18 pm18 an18 cd18 ct18), sl18⟩) (c18 : PySem.W.codeIn K cd18 "_law_unlike" = true) (k18 : PySem.W.keepIn K (.ref f18) = true)
    (a19 : PySem.W.nsIn K mainGlobals "passes" = some (some (.ref f19))) (l19 : K.lookup f19 = some ⟨oc19, od19, .func (PySem.W.fnOf "passes" "passes" (defArgs st_passes) (defBody st_passes) (defScope st_passes) .none kV19 dc19 pm19 an19 cd19 ct19), sl19⟩) (c19 : PySem.W.codeIn K cd19 "passes" = true) (k19 : PySem.W.keepIn K (.ref f19) = true)
    (a20 : PySem.W.nsIn K mainGlobals "never_fits" = some (some (.ref f20))) (l20 : K.lookup f20 = some ⟨oc20, od20, .func (PySem.W.fnOf "never_fits" "never_fits" (defArgs st_never_fits) (defBody st_never_fits) (defScope st_never_fits) .none kV20 dc20 pm20 an20 cd20 ct20), sl20⟩) (c20 : PySem.W.codeIn K cd20 "never_fits" = true) (k20 : PySem.W.keepIn K (.ref f20) = true)
    (a21 : PySem.W.nsIn K mainGlobals "lets" = some (some (.ref f21))) (l21 : K.lookup f21 = some ⟨oc21, od21, .func (PySem.W.fnOf "lets" "lets" (defArgs st_lets) (defBody st_lets) (defScope st_lets) .none kV21 dc21 pm21 an21 cd21 ct21), sl21⟩) (c21 : PySem.W.codeIn K cd21 "lets" = true) (k21 : PySem.W.keepIn K (.ref f21) = true)
    (a22 : PySem.W.nsIn K mainGlobals "parted" = some (some (.ref f22))) (l22 : K.lookup f22 = some ⟨oc22, od22, .func (PySem.W.fnOf "parted" "parted" (defArgs st_parted) (defBody st_parted) (defScope st_parted) .none kV22 dc22 pm22 an22 cd22 ct22), sl22⟩) (c22 : PySem.W.codeIn K cd22 "parted" = true) (k22 : PySem.W.keepIn K (.ref f22) = true)
    (a23 : PySem.W.nsIn K mainGlobals "unlike" = some (some (.ref f23))) (l23 : K.lookup f23 = some ⟨oc23, od23, .func (PySem.W.fnOf "unlike" "unlike" (defArgs st_unlike) (defBody st_unlike) (defScope st_unlike) .none kV23 dc23 pm23 an23 cd23 ct23), sl23⟩) (c23 : PySem.W.codeIn K cd23 "unlike" = true) (k23 : PySem.W.keepIn K (.ref f23) = true)
    (a24 : PySem.W.nsIn K mainGlobals "needless" = some (some (.ref f24))) (l24 : K.lookup f24 = some ⟨oc24, od24, .func (PySem.W.fnOf "needless" "needless" (defArgs st_needless) (defBody st_needless) (defScope st_needless) .none kV24 dc24 pm24 an24 cd24 ct24), sl24⟩) (c24 : PySem.W.codeIn K cd24 "needless" = true) (k24 : PySem.W.keepIn K (.ref f24) = true)
    (a25 : PySem.W.nsIn K mainGlobals "fewer" = some (some (.ref f25))) (l25 : K.lookup f25 = some ⟨oc25, od25, .func (PySem.W.fnOf "fewer" "fewer" (defArgs st_fewer) (defBody st_fewer) (defScope st_fewer) .none kV25 dc25 pm25 an25 cd25 ct25), sl25⟩) (c25 : PySem.W.codeIn K cd25 "fewer" = true) (k25 : PySem.W.keepIn K (.ref f25) = true)
    (a26 : PySem.W.nsIn K mainGlobals "_law_fault" = some (some (.ref f26))) (l26 : K.lookup f26 = some ⟨oc26, od26, .func (PySem.W.fnOf "_law_fault" "_law_fault" (defArgs st__law_fault) (defBody st__law_fault) (defScope st__law_fault) .none kV26 dc26 pm26 an26 cd26 ct26), sl26⟩) (c26 : PySem.W.codeIn K cd26 "_law_fault" = true) (k26 : PySem.W.keepIn K (.ref f26) = true)
    (a27 : PySem.W.nsIn K mainGlobals "law" = some (some (.ref f27))) (l27 : K.lookup f27 = some ⟨oc27, od27, .func (PySem.W.fnOf "law" "law" (defArgs st_law) (defBody st_law) (defScope st_law) .none kV27 dc27 pm27 an27 cd27 ct27), sl27⟩) (c27 : PySem.W.codeIn K cd27 "law" = true) (k27 : PySem.W.keepIn K (.ref f27) = true)
    (z_range : PySem.W.nsIn K mainGlobals "range" = some none)
    (z_sorted : PySem.W.nsIn K mainGlobals "sorted" = some none)
    (z_set : PySem.W.nsIn K mainGlobals "set" = some none)
    (z_len : PySem.W.nsIn K mainGlobals "len" = some none)
    (z_min : PySem.W.nsIn K mainGlobals "min" = some none)
    (z_abs : PySem.W.nsIn K mainGlobals "abs" = some none)
    (z_int : PySem.W.nsIn K mainGlobals "int" = some none)
    (z_enumerate : PySem.W.nsIn K mainGlobals "enumerate" = some none)
    (z_list : PySem.W.nsIn K mainGlobals "list" = some none)
    (z_repr : PySem.W.nsIn K mainGlobals "repr" = some none)
    (m_BITS : PySem.W.nsIn K mainGlobals "BITS" = some (some (.int 16 t_BITS)))
    (m_ADDRESSES : PySem.W.nsIn K mainGlobals "ADDRESSES" = some (some (.int 65536 t_ADDRESSES)))
    (m_WORDS : PySem.W.nsIn K mainGlobals "WORDS" = some (some (.ref tt_WORDS))) (ml_WORDS : K.lookup tt_WORDS = some ⟨.type "tuple", td_WORDS, .seq #[.str "let" tk_WORDS_0, .str "bar" tk_WORDS_1] tn_WORDS, ts_WORDS⟩)
    (m_MARKS : PySem.W.nsIn K mainGlobals "MARKS" = some (some (.int 256 t_MARKS)))
    (m_MOST_RULES : PySem.W.nsIn K mainGlobals "MOST_RULES" = some (some (.int 20 t_MOST_RULES)))
    : ∃ fd : FuncData, (∀ (s : Shared) (v : Value), BindsTo s fd ⟨[v], []⟩ [("script", v)]) ∧ ∀ base : Heap, K.In base → base.Ns mainGlobals mg → FnG l.prog w K mg base 9 fa fd ["script"] (spS K w mg F_law) := by
  have e := hfa.symm.trans (PySem.W.mg_of X G a27)
  cases e
  have Z : Zs K mg := ⟨PySem.W.mg_none_of X G z_range, PySem.W.mg_none_of X G z_sorted, PySem.W.mg_none_of X G z_set, PySem.W.mg_none_of X G z_len, PySem.W.mg_none_of X G z_min, PySem.W.mg_none_of X G z_abs, PySem.W.mg_none_of X G z_int, PySem.W.mg_none_of X G z_enumerate, PySem.W.mg_none_of X G z_list, PySem.W.mg_none_of X G z_repr, ⟨_, PySem.W.mg_of X G m_BITS⟩, ⟨_, PySem.W.mg_of X G m_ADDRESSES⟩, ⟨_, _, _, _, PySem.W.mg_of X G m_WORDS, ml_WORDS, rfl, rfl, (by show 2 ≤ sizeLine; rw [sizeLine_eq]; decide), .cons ⟨_, rfl⟩ (.cons ⟨_, rfl⟩ (.nil))⟩, ⟨_, PySem.W.mg_of X G m_MARKS⟩, ⟨_, PySem.W.mg_of X G m_MOST_RULES⟩⟩
  have n_NetError : NetC K C_NetError eF C_NetError := ⟨⟨_, _, _, _, _, _, _, _, _, _, _, _, _, _, _, xL_NetError, refsVE_base⟩, sa_NetError, ga_NetError, gg_NetError, nb_NetError, iC_NetError, kC_NetError, eC_NetError, vC_NetError, tC_NetError, hC_NetError, mB_NetError, su_NetError⟩
  have n_TooMany : NetC K C_NetError eF C_TooMany := ⟨⟨_, _, _, _, _, _, _, _, _, _, _, _, _, _, _, xL_TooMany, refsVE_one⟩, sa_TooMany, ga_TooMany, gg_TooMany, nb_TooMany, iC_TooMany, kC_TooMany, eC_TooMany, vC_TooMany, tC_TooMany, hC_TooMany, mB_TooMany, su_TooMany⟩
  have n_BadRule : NetC K C_NetError eF C_BadRule := ⟨⟨_, _, _, _, _, _, _, _, _, _, _, _, _, _, _, xL_BadRule, refsVE_one⟩, sa_BadRule, ga_BadRule, gg_BadRule, nb_BadRule, iC_BadRule, kC_BadRule, eC_BadRule, vC_BadRule, tC_BadRule, hC_BadRule, mB_BadRule, su_BadRule⟩
  have Er : Es l.prog K mg C_NetError eF := ⟨⟨⟨_, _, _, _, _, _, _, _, _, _, _, _, _, _, _, _, _, _, _, _, _, _, el, rfl, ec, ⟨_, _, _, _, _, _, eh, ev, ef⟩, _, _, _, ecl⟩, ⟨_, ecB⟩, PySem.W.mg_none_of X G esup, etp, etop, etI⟩, ⟨_, PySem.W.mg_of X G a_TooMany, n_TooMany⟩, ⟨_, PySem.W.mg_of X G a_BadRule, n_BadRule⟩, (fun D g => by cases (PySem.W.mg_of X G a_TooMany).symm.trans g; exact ⟨_, PySem.W.mg_of X G a_TooMany, n_TooMany, ex_TooMany_TooMany⟩), (fun D g => by cases (PySem.W.mg_of X G a_TooMany).symm.trans g; exact ⟨_, PySem.W.mg_of X G a_BadRule, n_BadRule, ex_BadRule_TooMany⟩), (fun D g => by cases (PySem.W.mg_of X G a_BadRule).symm.trans g; exact ⟨_, PySem.W.mg_of X G a_BadRule, n_BadRule, ex_BadRule_BadRule⟩), (fun D g => by cases (PySem.W.mg_of X G a_BadRule).symm.trans g; exact ⟨_, PySem.W.mg_of X G a_TooMany, n_TooMany, ex_TooMany_BadRule⟩)⟩
  have F0 := fun_mk (st := st_width) l0 c0 k0
  have b0 := F0.binds (ps := P_width) fun _ _ _ _ _ _ us hl => match us, hl with | [_], _ => rfl
  have F1 := fun_mk (st := st_starts) l1 c1 k1
  have b1 := F1.binds (ps := P_starts) fun _ _ _ _ _ _ us hl => match us, hl with | [_, _], _ => rfl
  have F2 := fun_mk (st := st__law_draws) l2 c2 k2
  have b2 := F2.binds (ps := P__law_draws) fun _ _ _ _ _ _ us hl => match us, hl with | [_], _ => rfl
  have F3 := fun_mk (st := st__law_mix) l3 c3 k3
  have b3 := F3.binds (ps := P__law_mix) fun _ _ _ _ _ _ us hl => match us, hl with | [_, _, _], _ => rfl
  have F4 := fun_mk (st := st__law_two) l4 c4 k4
  have b4 := F4.binds (ps := P__law_two) fun _ _ _ _ _ _ us hl => match us, hl with | [_], _ => rfl
  have F5 := fun_mk (st := st_is_prefix) l5 c5 k5
  have b5 := F5.binds (ps := P_is_prefix) fun _ _ _ _ _ _ us hl => match us, hl with | [_], _ => rfl
  have F6 := fun_mk (st := st_span) l6 c6 k6
  have b6 := F6.binds (ps := P_span) fun _ _ _ _ _ _ us hl => match us, hl with | [_], _ => rfl
  have F7 := fun_mk (st := st_holds) l7 c7 k7
  have b7 := F7.binds (ps := P_holds) fun _ _ _ _ _ _ us hl => match us, hl with | [_, _], _ => rfl
  have F8 := fun_mk (st := st__law_holds) l8 c8 k8
  have b8 := F8.binds (ps := P__law_holds) fun _ _ _ _ _ _ us hl => match us, hl with | [_, _], _ => rfl
  have F9 := fun_mk (st := st__law_rules) l9 c9 k9
  have b9 := F9.binds (ps := P__law_rules) fun _ _ _ _ _ _ us hl => match us, hl with | [_, _, _], _ => rfl
  have F10 := fun_mk (st := st__law_corners) l10 c10 k10
  have b10 := F10.binds (ps := P__law_corners) fun _ _ _ _ _ _ us hl => match us, hl with | [_], _ => rfl
  have F11 := fun_mk (st := st_is_rule) l11 c11 k11
  have b11 := F11.binds (ps := P_is_rule) fun _ _ _ _ _ _ us hl => match us, hl with | [_], _ => rfl
  have F12 := fun_mk (st := st_fits) l12 c12 k12
  have b12 := F12.binds (ps := P_fits) fun _ _ _ _ _ _ us hl => match us, hl with | [_, _, _, _], _ => rfl
  have F13 := fun_mk (st := st_corners) l13 c13 k13
  have b13 := F13.binds (ps := P_corners) fun _ _ _ _ _ _ us hl => match us, hl with | [_], _ => rfl
  have F14 := fun_mk (st := st__law_passes) l14 c14 k14
  have b14 := F14.binds (ps := P__law_passes) fun _ _ _ _ _ _ us hl => match us, hl with | [_, _, _, _], _ => rfl
  have F15 := fun_mk (st := st_check_rules) l15 c15 k15
  have b15 := F15.binds (ps := P_check_rules) fun _ _ _ _ _ _ us hl => match us, hl with | [_], _ => rfl
  have F16 := fun_mk (st := st_first_fit) l16 c16 k16
  have b16 := F16.binds (ps := P_first_fit) fun _ _ _ _ _ _ us hl => match us, hl with | [_, _, _, _], _ => rfl
  have F17 := fun_mk (st := st_triples_of) l17 c17 k17
  have b17 := F17.binds (ps := P_triples_of) fun _ _ _ _ _ _ us hl => match us, hl with | [_], _ => rfl
  have F18 := fun_mk (st := st__law_unlike) l18 c18 k18
  have b18 := F18.binds (ps := P__law_unlike) fun _ _ _ _ _ _ us hl => match us, hl with | [_, _], _ => rfl
  have F19 := fun_mk (st := st_passes) l19 c19 k19
  have b19 := F19.binds (ps := P_passes) fun _ _ _ _ _ _ us hl => match us, hl with | [_, _, _, _], _ => rfl
  have F20 := fun_mk (st := st_never_fits) l20 c20 k20
  have b20 := F20.binds (ps := P_never_fits) fun _ _ _ _ _ _ us hl => match us, hl with | [_], _ => rfl
  have F21 := fun_mk (st := st_lets) l21 c21 k21
  have b21 := F21.binds (ps := P_lets) fun _ _ _ _ _ _ us hl => match us, hl with | [_, _, _, _], _ => rfl
  have F22 := fun_mk (st := st_parted) l22 c22 k22
  have b22 := F22.binds (ps := P_parted) fun _ _ _ _ _ _ us hl => match us, hl with | [_, _], _ => rfl
  have F23 := fun_mk (st := st_unlike) l23 c23 k23
  have b23 := F23.binds (ps := P_unlike) fun _ _ _ _ _ _ us hl => match us, hl with | [_, _], _ => rfl
  have F24 := fun_mk (st := st_needless) l24 c24 k24
  have b24 := F24.binds (ps := P_needless) fun _ _ _ _ _ _ us hl => match us, hl with | [_], _ => rfl
  have F25 := fun_mk (st := st_fewer) l25 c25 k25
  have b25 := F25.binds (ps := P_fewer) fun _ _ _ _ _ _ us hl => match us, hl with | [_], _ => rfl
  have F26 := fun_mk (st := st__law_fault) l26 c26 k26
  have b26 := F26.binds (ps := P__law_fault) fun _ _ _ _ _ _ us hl => match us, hl with | [_, _], _ => rfl
  have F27 := fun_mk (st := st_law) l27 c27 k27
  refine ⟨PySem.W.fnOf "law" "law" (defArgs st_law) (defBody st_law) (defScope st_law) .none kV27 dc27 pm27 an27 cd27 ct27, fun s v => .of_eq rfl, fun base _ _ => ?_⟩
  have d0 := ok_width (P := l.prog) (w := w) (base := base) Z Er  F0 (PySem.W.mg_of X G a0) b0
  have d1 := ok_starts (P := l.prog) (w := w) (base := base) Z Er  F1 (PySem.W.mg_of X G a1) b1
  have d2 := ok__law_draws (P := l.prog) (w := w) (base := base) Z Er  F2 (PySem.W.mg_of X G a2) b2
  have d3 := ok__law_mix (P := l.prog) (w := w) (base := base) Z Er  F3 (PySem.W.mg_of X G a3) b3
  have d4 := ok__law_two (P := l.prog) (w := w) (base := base) Z Er  F4 (PySem.W.mg_of X G a4) b4
  have d5 := ok_is_prefix (P := l.prog) (w := w) (base := base) Z Er d0 F5 (PySem.W.mg_of X G a5) b5
  have d6 := ok_span (P := l.prog) (w := w) (base := base) Z Er d0 F6 (PySem.W.mg_of X G a6) b6
  have d7 := ok_holds (P := l.prog) (w := w) (base := base) Z Er d0 F7 (PySem.W.mg_of X G a7) b7
  have d8 := ok__law_holds (P := l.prog) (w := w) (base := base) Z Er d4 F8 (PySem.W.mg_of X G a8) b8
  have d9 := ok__law_rules (P := l.prog) (w := w) (base := base) Z Er d3 d4 F9 (PySem.W.mg_of X G a9) b9
  have d10 := ok__law_corners (P := l.prog) (w := w) (base := base) Z Er d4 F10 (PySem.W.mg_of X G a10) b10
  have d11 := ok_is_rule (P := l.prog) (w := w) (base := base) Z Er d5 F11 (PySem.W.mg_of X G a11) b11
  have d12 := ok_fits (P := l.prog) (w := w) (base := base) Z Er d7 F12 (PySem.W.mg_of X G a12) b12
  have d13 := ok_corners (P := l.prog) (w := w) (base := base) Z Er d1 d6 F13 (PySem.W.mg_of X G a13) b13
  have d14 := ok__law_passes (P := l.prog) (w := w) (base := base) Z Er d8 F14 (PySem.W.mg_of X G a14) b14
  have d15 := ok_check_rules (P := l.prog) (w := w) (base := base) Z Er d11 F15 (PySem.W.mg_of X G a15) b15
  have d16 := ok_first_fit (P := l.prog) (w := w) (base := base) Z Er d12 F16 (PySem.W.mg_of X G a16) b16
  have d17 := ok_triples_of (P := l.prog) (w := w) (base := base) Z Er d13 F17 (PySem.W.mg_of X G a17) b17
  have d18 := ok__law_unlike (P := l.prog) (w := w) (base := base) Z Er d10 d14 F18 (PySem.W.mg_of X G a18) b18
  have d19 := ok_passes (P := l.prog) (w := w) (base := base) Z Er d16 F19 (PySem.W.mg_of X G a19) b19
  have d20 := ok_never_fits (P := l.prog) (w := w) (base := base) Z Er d15 d16 d17 F20 (PySem.W.mg_of X G a20) b20
  have d21 := ok_lets (P := l.prog) (w := w) (base := base) Z Er d15 d19 F21 (PySem.W.mg_of X G a21) b21
  have d22 := ok_parted (P := l.prog) (w := w) (base := base) Z Er d17 d19 F22 (PySem.W.mg_of X G a22) b22
  have d23 := ok_unlike (P := l.prog) (w := w) (base := base) Z Er d15 d22 F23 (PySem.W.mg_of X G a23) b23
  have d24 := ok_needless (P := l.prog) (w := w) (base := base) Z Er d15 d22 F24 (PySem.W.mg_of X G a24) b24
  have d25 := ok_fewer (P := l.prog) (w := w) (base := base) Z Er d15 d22 F25 (PySem.W.mg_of X G a25) b25
  have d26 := ok__law_fault (P := l.prog) (w := w) (base := base) Z Er d21 d23 d15 d20 d24 d25 F26 (PySem.W.mg_of X G a26) b26
  exact fn_law Z Er d9 d10 d3 d18 d23 d26 d21 d14 d20 d24 d25 d8 d2 F27
end
end K03
set_option Elab.async false
set_option linter.all false
set_option maxRecDepth 100000
namespace K03
open PySem DP
theorem width_at {L : Int} (h : 0 ≤ L ∧ L ≤ 16) : F_width [.int L] = .ok (.int (2 ^ (16 - L).toNat)) := by
  have : L = 0 ∨ L = 1 ∨ L = 2 ∨ L = 3 ∨ L = 4 ∨ L = 5 ∨ L = 6 ∨ L = 7 ∨ L = 8 ∨ L = 9 ∨ L = 10 ∨ L = 11 ∨ L = 12 ∨ L = 13 ∨ L = 14 ∨ L = 15 ∨ L = 16 := by omega
  rcases this with rfl | rfl | rfl | rfl | rfl | rfl | rfl | rfl | rfl | rfl | rfl | rfl | rfl | rfl | rfl | rfl | rfl <;> rfl
theorem two_at {k : Int} (h : 0 ≤ k ∧ k ≤ 16) : F__law_two [.int k] = .ok (.int (2 ^ k.toNat)) := by
  have : k = 0 ∨ k = 1 ∨ k = 2 ∨ k = 3 ∨ k = 4 ∨ k = 5 ∨ k = 6 ∨ k = 7 ∨ k = 8 ∨ k = 9 ∨ k = 10 ∨ k = 11 ∨ k = 12 ∨ k = 13 ∨ k = 14 ∨ k = 15 ∨ k = 16 := by omega
  rcases this with rfl | rfl | rfl | rfl | rfl | rfl | rfl | rfl | rfl | rfl | rfl | rfl | rfl | rfl | rfl | rfl | rfl <;> rfl
/-- the draws -/
def Dr (ds : List Int) : Prop := ds.length ≤ 5000 ∧ ∀ d ∈ ds, 0 ≤ d ∧ d < 65536
theorem at_mod {ds : List Int} (h : 0 < ds.length) (k : Int) : ∃ d, d ∈ ds ∧ L2.atI (ds.map PyData.int) (k % (ds.length : Int)) = some (.int d) := by
  have h1 : 0 ≤ k % (ds.length : Int) := Int.emod_nonneg _ (by omega)
  have h2 : k % (ds.length : Int) < ds.length := Int.emod_lt_of_pos _ (by omega)
  have h3 : (k % (ds.length : Int)).toNat < ds.length := by omega
  refine ⟨ds[(k % (ds.length : Int)).toNat], List.getElem_mem h3, ?_⟩
  unfold L2.atI L2.ixN
  rw [List.length_map, if_pos h1, if_pos h2]
  simp [List.getElem?_eq_getElem h3]
theorem s64_c {i : Int} (h : -(2 ^ 64) < i) (h2 : i < 2 ^ 64) : s64 i = true := s64_iff.mpr ⟨h, h2⟩
theorem mix_ex {ds : List Int} (h : Dr ds) (k : Int) {m : Int} (hm : 0 < m) : ∃ v, F__law_mix [.list (ds.map .int), .int k, .int m] = .ok (.int v) ∧ 0 ≤ v ∧ v < m := by
  have a1 : s64 7919 = true := rfl
  have a2 : s64 104729 = true := rfl
  have fin : ∀ x : Int, ∃ v, Out.ok (PyData.int (x % m)) = Out.ok (PyData.int v) ∧ 0 ≤ v ∧ v < m := fun x => ⟨_, rfl, Int.emod_nonneg _ (by omega), Int.emod_lt_of_pos _ hm⟩
  unfold F__law_mix runB B__law_mix
  by_cases hl : 0 < ds.length
  · obtain ⟨d, _, hd⟩ := at_mod hl k
    have hl' : (0 : Int) < ds.length := by omega
    by_cases hk : k < ds.length
    · simp [hl, mod_int hl', hd, hk, mod_int hm]
      exact ⟨Int.emod_nonneg _ (by omega), Int.emod_lt_of_pos _ hm⟩
    · simp [hl, mod_int hl', hd, hk, mod_int hm, mul_r a1, mul_r a2, fdiv_int]
      exact ⟨Int.emod_nonneg _ (by omega), Int.emod_lt_of_pos _ hm⟩
  · have hk' : ds.length = 0 := by omega
    by_cases hk : k < ds.length
    · simp [hl, hk, mod_int hm]
      exact hm
    · simp [hl, hk, mod_int hm, mul_r a1, mul_r a2, fdiv_int]
      exact ⟨Int.emod_nonneg _ (by omega), Int.emod_lt_of_pos _ hm⟩
/-- the list that is drawn, after i numbers of the script -/
def Dn (n : Nat) (ds : List Int) : Prop := ds.length ≤ n ∧ ∀ d ∈ ds, 0 ≤ d ∧ d < 65536
theorem Dn.snoc {n : Nat} {ds : List Int} (h : Dn n ds) {d : Int} (h1 : 0 ≤ d) (h2 : d < 65536) : Dn (n + 1) (ds ++ [d]) := by
  refine ⟨by simp; exact h.1, fun x hx => ?_⟩
  rcases List.mem_append.mp hx with q | q
  · exact h.2 x q
  · rw [List.mem_singleton.mp q]; exact ⟨h1, h2⟩
theorem snoc_map (ds : List Int) (d : Int) : ds.map PyData.int ++ [PyData.int d] = (ds ++ [d]).map PyData.int := by simp
theorem draws_in (ns : List Int) (k r0 : Int) (h0 : 0 ≤ r0) (a0 b : Sl) (ds0 : List Int) (m : Nat) (hd : Dn m ds0) (hm : m ≤ 10000) :
    ∃ ds r a, forL (gN 4) Y1__law_draws (rngD 0 1 60) [.sc ns, .ow none (.list (ds0.map .int)), .fz (.int k), .fz (.int r0), a0, b] = .ok (.nx, [.sc ns, .ow none (.list (ds.map .int)), .fz (.int k), .fz (.int r), a, b]) ∧ Dn (m + 60) ds := by
  have step : ∀ (i : Nat) (x : D) (env : Ev), (rngD 0 1 60)[i]? = some x → (∃ ds r a, env = [.sc ns, .ow none (.list (ds.map .int)), .fz (.int k), .fz (.int r), a, b] ∧ 0 ≤ r ∧ Dn (m + (0 + i)) ds) →
      ∃ e1 e2, gN 4 x env = some e1 ∧ Y1__law_draws e1 = .ok (.nx, e2) ∧ ∃ ds r a, e2 = [.sc ns, .ow none (.list (ds.map .int)), .fz (.int k), .fz (.int r), a, b] ∧ 0 ≤ r ∧ Dn (m + (0 + i + 1)) ds := by
    rintro i x env hx ⟨ds, r, a, rfl, hr, hn⟩
    obtain ⟨hi, rfl⟩ := rngD_at hx
    rw [Nat.zero_add] at hn
    by_cases hp : 0 < r
    · have hl : (ds.map PyData.int).length < 16777216 := by rw [List.length_map]; have := hn.1; omega
      refine ⟨_, [.sc ns, .ow none (.list ((ds ++ [r % 65536]).map .int)), .fz (.int k), .fz (.int (r / 65536)), .fz (.int (0 + (i : Int) * 1)), b], rfl, ?_, ds ++ [r % 65536], r / 65536, _, rfl, by omega, by rw [Nat.zero_add]; exact hn.snoc (Int.emod_nonneg _ (by omega)) (Int.emod_lt_of_pos _ (by omega))⟩
      simp [Y1__law_draws, hp, mod_int, fdiv_int, app_small hl]
    · refine ⟨_, [.sc ns, .ow none (.list (ds.map .int)), .fz (.int k), .fz (.int r), .fz (.int (0 + (i : Int) * 1)), b], rfl, ?_, ds, r, _, rfl, hr, by rw [Nat.zero_add]; exact ⟨Nat.le_succ_of_le hn.1, hn.2⟩⟩
      simp [Y1__law_draws, hp]
  obtain ⟨e2, h1, ds, r, a', h3, h4, h5⟩ := for_inv (g := gN 4) (body := Y1__law_draws)
    (fun i env => ∃ ds r a, env = [.sc ns, .ow none (.list (ds.map .int)), .fz (.int k), .fz (.int r), a, b] ∧ 0 ≤ r ∧ Dn (m + i) ds) (rngD 0 1 60) 0 [.sc ns, .ow none (.list (ds0.map .int)), .fz (.int k), .fz (.int r0), a0, b] step ⟨ds0, r0, a0, rfl, h0, hd⟩
  rw [rngD_len, Nat.zero_add] at h5
  exact ⟨ds, r, a', by rw [h1, h3], h5⟩
theorem pow_10_18 : powD (.int 10) (.int 18) = some (.int 1000000000000000000) := by
  unfold powD
  simp
theorem if_no {c : TF} {f g : SF} {env e1 : Ev} (h : c env = .ok (false, e1)) : sIf c f g env = g e1 := by unfold sIf; rw [h]; rfl
theorem if_yes {c : TF} {f g : SF} {env e1 : Ev} (h : c env = .ok (true, e1)) : sIf c f g env = f e1 := by unfold sIf; rw [h]; rfl
theorem draws_abs (ns : List Int) (i : Nat) (z y : Int) (a b c d : Sl) (hz : L2.atI ns (i : Int) = some z) (ha : absD [.int z] = some (.int y)) : sSet 3 (xn absD (aCons (xAtS 0 (xVar 2)) (aNil))) [.sc ns, a, .fz (.int i), b, c, d] = .ok (.nx, [.sc ns, a, .fz (.int i), .fz (.int y), c, d]) := by
  simp [hz, ha, -absD_i]
theorem draws_ask (y : Int) (t a b c d : Sl) {k : Bool} (hb : decide (1000000000000000000 ≤ y) = k) : tst (x2 geD (xVar 3) (x2 powD (xConst (.int 10)) (xConst (.int 18)))) [t, a, b, .fz (.int y), c, d] = .ok (k, [t, a, b, .fz (.int y), c, d]) := by
  simp [pow_10_18, hb]
theorem draws_big (ns : List Int) (i : Nat) (z y : Int) (b0 c0 d0 : Sl) (ds : List Int) (hz : L2.atI ns (i : Int) = some z) (ha : absD [.int z] = some (.int y)) (h0 : 0 ≤ y) (hb : 1000000000000000000 ≤ y) (hd : Dn (i * 60) ds) (hi : i < 63) :
    ∃ ds2 a b c d', Y2__law_draws [.sc ns, .ow none (.list (ds.map .int)), .fz (.int i), b0, c0, d0] = .ok (.nx, [.sc ns, .ow none (.list (ds2.map .int)), a, b, c, d']) ∧ Dn ((i + 1) * 60) ds2 := by
  obtain ⟨ds2, r2, a2, h5, h6⟩ := draws_in ns i y h0 c0 d0 ds (i * 60) hd (by omega)
  refine ⟨ds2, .fz (.int i), .fz (.int r2), a2, d0, ?_, by rw [show (i + 1) * 60 = i * 60 + 60 by omega]; exact h6⟩
  unfold Y2__law_draws
  rw [seq_nx (draws_abs ns i z y _ b0 c0 d0 hz ha), if_yes (draws_ask y _ _ _ c0 d0 (decide_eq_true hb))]
  unfold sFor iArgs
  rw [show ((aCons (xConst (.int 60)) aNil) [.sc ns, .ow none (.list (ds.map .int)), .fz (.int i), .fz (.int y), c0, d0]) = Out.ok ([.int 60], [.sc ns, .ow none (.list (ds.map .int)), .fz (.int i), .fz (.int y), c0, d0]) from rfl]
  simp only [Out.bind_ok]
  rw [show rng1 [.int 60] = some (rngD 0 1 60) from rfl]
  exact h5
theorem two_more {n : Nat} {ds : List Int} (h : Dn n ds) (x y : Int) (hx : 0 ≤ x ∧ x < 65536) (hy : 0 ≤ y ∧ y < 65536) : Dn (n + 60) (ds ++ [x] ++ [y]) := by
  have := (h.snoc hx.1 hx.2).snoc hy.1 hy.2
  exact ⟨Nat.le_trans this.1 (by omega), this.2⟩
theorem step1 (y i : Int) (a b c d : Sl)  : sSet 5 (x2 modD (xn intD (aCons (x2 addD (x2 mulD (xVar 3) (xConst (.int 48271))) (x2 mulD (x2 addD (xVar 2) (xConst (.int 1))) (xConst (.int 69621)))) (aNil))) (xConst (.int 2147483647))) [a, b, .fz (.int i), .fz (.int y), c, d] = .ok (.nx, [a, b, .fz (.int i), .fz (.int y), c, .fz (.int ((y * 48271 + (i + 1) * 69621) % 2147483647))]) := by
  have a1 : s64 48271 = true := rfl
  have a2 : s64 69621 = true := rfl
  simp [mod_int, mul_r a1, mul_r a2]
theorem step2 (y i : Int) (a b c d : Sl)  : sSet 5 (x2 modD (xn intD (aCons (x2 addD (x2 addD (x2 mulD (xVar 5) (xConst (.int 16807))) (x2 mulD (xConst (.int 11)) (xVar 2))) (xConst (.int 5))) (aNil))) (xConst (.int 2147483629))) [a, b, .fz (.int i), c, d, .fz (.int y)] = .ok (.nx, [a, b, .fz (.int i), c, d, .fz (.int ((y * 16807 + 11 * i + 5) % 2147483629))]) := by
  have a1 : s64 16807 = true := rfl
  have a2 : s64 11 = true := rfl
  simp [mod_int, mul_r a1, mul_l a2]
theorem step3 (y : Int) (ds : List Int) (a b c d : Sl) (hl : ds.length < 16777216) : sDrop (xMutL 1 opApp (aCons (x2 modD (xn intD (aCons (xVar 5) (aNil))) (xConst (.int 65536))) (aNil))) [a, .ow none (.list (ds.map .int)), b, c, d, .fz (.int y)] = .ok (.nx, [a, .ow none (.list ((ds ++ [y % 65536]).map .int)), b, c, d, .fz (.int y)]) := by
  have hl' : (ds.map PyData.int).length < 16777216 := by rw [List.length_map]; exact hl
  simp [mod_int, app_small hl']
theorem step4 (y : Int) (ds : List Int) (a b c d : Sl) (hl : ds.length < 16777216) : sDrop (xMutL 1 opApp (aCons (x2 modD (xn intD (aCons (x2 fdivD (xVar 5) (xConst (.int 65536))) (aNil))) (xConst (.int 32768))) (aNil))) [a, .ow none (.list (ds.map .int)), b, c, d, .fz (.int y)] = .ok (.nx, [a, .ow none (.list ((ds ++ [y / 65536 % 32768]).map .int)), b, c, d, .fz (.int y)]) := by
  have hl' : (ds.map PyData.int).length < 16777216 := by rw [List.length_map]; exact hl
  simp [mod_int, fdiv_int, app_small hl']
theorem draws_small (ns : List Int) (i : Nat) (z y : Int) (b0 c0 d0 : Sl) (ds : List Int) (hz : L2.atI ns (i : Int) = some z) (ha : absD [.int z] = some (.int y)) (h0 : 0 ≤ y) (hb : ¬ 1000000000000000000 ≤ y) (hd : Dn (i * 60) ds) (hi : i < 63) :
    ∃ ds2 a b c d', Y2__law_draws [.sc ns, .ow none (.list (ds.map .int)), .fz (.int i), b0, c0, d0] = .ok (.nx, [.sc ns, .ow none (.list (ds2.map .int)), a, b, c, d']) ∧ Dn ((i + 1) * 60) ds2 := by
  have hl : ds.length < 16777216 := by have := hd.1; omega
  have hl2 : ∀ v : Int, (ds ++ [v]).length < 16777216 := fun v => by rw [List.length_append, List.length_singleton]; have := hd.1; omega
  obtain ⟨v, hv⟩ : ∃ v, v = (y * 48271 + ((i : Int) + 1) * 69621) % 2147483647 := ⟨_, rfl⟩
  obtain ⟨u, hu⟩ : ∃ u, u = (v * 16807 + 11 * (i : Int) + 5) % 2147483629 := ⟨_, rfl⟩
  refine ⟨ds ++ [u % 65536] ++ [u / 65536 % 32768], .fz (.int i), .fz (.int y), c0, .fz (.int u), ?_, ?_⟩
  rotate_left
  · rw [show (i + 1) * 60 = i * 60 + 60 by omega]
    exact two_more hd _ _ ⟨Int.emod_nonneg _ (by decide), Int.emod_lt_of_pos _ (by decide)⟩ ⟨Int.emod_nonneg _ (by decide), Int.lt_of_lt_of_le (Int.emod_lt_of_pos _ (by decide)) (by decide)⟩
  · have s1 := step1 y i (.sc ns) (.ow none (.list (ds.map .int))) c0 d0
    rw [← hv] at s1
    have s2 := step2 v i (.sc ns) (.ow none (.list (ds.map .int))) (.fz (.int y)) c0
    rw [← hu] at s2
    unfold Y2__law_draws
    rw [seq_nx (draws_abs ns i z y _ b0 c0 d0 hz ha), if_no (draws_ask y _ _ _ c0 d0 (decide_eq_false hb)), seq_nx s1, seq_nx s2, seq_nx (step3 u ds _ _ _ _ hl), step4 u _ _ _ _ _ (hl2 _)]
theorem draws_ok {ns : List Int} (hn : ns.length ≤ 63) : ∃ ds, F__law_draws ns = .ok (.list (ds.map .int)) ∧ Dr ds := by
  have hx : (if (ns.length : Int) < 63 then (ns.length : Int) else 63) = ns.length := by split <;> omega
  have hr := rng1_ok (show (ns.length : Int) < 4611686018427387904 by omega) (by omega)
  have step : ∀ (i : Nat) (x : D) (env : Ev), (rngD 0 1 ns.length)[i]? = some x → (∃ ds a b c d, env = [.sc ns, .ow none (.list (ds.map .int)), a, b, c, d] ∧ Dn ((0 + i) * 60) ds) →
      ∃ e1 e2, gN 2 x env = some e1 ∧ Y2__law_draws e1 = .ok (.nx, e2) ∧ ∃ ds a b c d, e2 = [.sc ns, .ow none (.list (ds.map .int)), a, b, c, d] ∧ Dn ((0 + i + 1) * 60) ds := by
    rintro i x env hx ⟨ds, a, b, c, d, rfl, hd⟩
    rw [Nat.zero_add] at hd ⊢
    obtain ⟨hi, rfl⟩ := rngD_at hx
    have hz : L2.atI ns (i : Int) = some ns[i] := by
      unfold L2.atI L2.ixN
      rw [if_pos (by omega), if_pos (by omega)]
      simp [List.getElem?_eq_getElem hi]
    have ha : absD [.int ns[i]] = some (.int (if ns[i] < 0 then -ns[i] else ns[i])) := rfl
    have h0 : 0 ≤ (if ns[i] < 0 then -ns[i] else ns[i]) := by split <;> omega
    generalize (if ns[i] < 0 then -ns[i] else ns[i]) = y at ha h0
    generalize ns[i] = z at hz ha
    rw [show 0 + (i : Int) * 1 = i by omega]
    by_cases hb : 1000000000000000000 ≤ y
    · obtain ⟨ds2, a', b', c', d', h1, h2⟩ := draws_big ns i z y b c d ds hz ha h0 hb hd (by omega)
      exact ⟨_, _, rfl, h1, ds2, a', b', c', d', rfl, h2⟩
    · obtain ⟨ds2, a', b', c', d', h1, h2⟩ := draws_small ns i z y b c d ds hz ha h0 hb hd (by omega)
      exact ⟨_, _, rfl, h1, ds2, a', b', c', d', rfl, h2⟩
  obtain ⟨e2, h1, ds, a, b, c, d, h3, h4⟩ := for_inv (g := gN 2) (body := Y2__law_draws)
    (fun i env => ∃ ds a b c d, env = [.sc ns, .ow none (.list (ds.map .int)), a, b, c, d] ∧ Dn (i * 60) ds) (rngD 0 1 ns.length) 0 [.sc ns, .ow none (.list []), .no, .no, .no, .no] step ⟨[], _, _, _, _, rfl, by simp [Dn]⟩
  rw [rngD_len, Nat.zero_add] at h4
  refine ⟨ds, ?_, by have := h4.1; omega, h4.2⟩
  have l1 : (aCons (xn min2D (aCons (xConst (.int 63)) (aCons (xLenS 0) (aNil)))) (aNil)) [.sc ns, .ow none (.list []), .no, .no, .no, .no] = .ok ([.int ns.length], [.sc ns, .ow none (.list []), .no, .no, .no, .no]) := by simp [hx]
  have l2 := for_args (G := gN 2) (p := Y2__law_draws) l1 hr
  rw [Int.toNat_natCast, h1, h3] at l2
  have l3 : sOwn 1 (xLst aNil) [.sc ns, .no, .no, .no, .no, .no] = .ok (.nx, [.sc ns, .ow none (.list []), .no, .no, .no, .no]) := by simp
  refine runS_rt (e := [.sc ns, .fz (.list (ds.map .int)), a, b, c, d]) ?_
  show B__law_draws [.sc ns, .no, .no, .no, .no, .no] = _
  unfold B__law_draws
  rw [seq_nx l3, seq_nx l2]
  simp
end K03
set_option Elab.async false
set_option linter.all false
set_option maxRecDepth 100000
namespace K03
open PySem DP
theorem small_ok {n : Nat} (h : n ≤ 1000000) : n ≤ sizeLine := by rw [sizeLine_eq]; omega
theorem pow_in {s : Int} (h : 0 ≤ s ∧ s ≤ 16) : 0 < (2 : Int) ^ (16 - s).toNat ∧ (2 : Int) ^ (16 - s).toNat ≤ 65536 := by
  have : s = 0 ∨ s = 1 ∨ s = 2 ∨ s = 3 ∨ s = 4 ∨ s = 5 ∨ s = 6 ∨ s = 7 ∨ s = 8 ∨ s = 9 ∨ s = 10 ∨ s = 11 ∨ s = 12 ∨ s = 13 ∨ s = 14 ∨ s = 15 ∨ s = 16 := by omega
  rcases this with rfl | rfl | rfl | rfl | rfl | rfl | rfl | rfl | rfl | rfl | rfl | rfl | rfl | rfl | rfl | rfl | rfl <;> decide
theorem pow_div {s : Int} (h : 0 ≤ s ∧ s ≤ 16) : (65536 : Int) % 2 ^ (16 - s).toNat = 0 := by
  have : s = 0 ∨ s = 1 ∨ s = 2 ∨ s = 3 ∨ s = 4 ∨ s = 5 ∨ s = 6 ∨ s = 7 ∨ s = 8 ∨ s = 9 ∨ s = 10 ∨ s = 11 ∨ s = 12 ∨ s = 13 ∨ s = 14 ∨ s = 15 ∨ s = 16 := by omega
  rcases this with rfl | rfl | rfl | rfl | rfl | rfl | rfl | rfl | rfl | rfl | rfl | rfl | rfl | rfl | rfl | rfl | rfl <;> decide
theorem ixN_lt {n : Nat} {i : Nat} (h : i < n) : L2.ixN n (i : Int) = some i := by
  unfold L2.ixN
  rw [if_pos (by omega), if_pos (by omega)]
  simp
theorem atI_lt {α : Type} {xs : List α} {i : Nat} (h : i < xs.length) : L2.atI xs (i : Int) = xs[i]? := by
  unfold L2.atI
  rw [ixN_lt h]
  rfl
@[simp] theorem at_0 {α : Type} {a : α} {l : List α} : L2.atI (a :: l) 0 = some a := atI_lt (i := 0) (by simp)
@[simp] theorem at_1 {α : Type} {a b : α} {l : List α} : L2.atI (a :: b :: l) 1 = some b := atI_lt (i := 1) (by simp)
@[simp] theorem at_2 {α : Type} {a b c : α} {l : List α} : L2.atI (a :: b :: c :: l) 2 = some c := atI_lt (i := 2) (by simp)
@[simp] theorem at_3 {α : Type} {a b c d : α} {l : List α} : L2.atI (a :: b :: c :: d :: l) 3 = some d := atI_lt (i := 3) (by simp)
@[simp] theorem at_4 {α : Type} {a b c d e : α} {l : List α} : L2.atI (a :: b :: c :: d :: e :: l) 4 = some e := atI_lt (i := 4) (by simp)
/-- a prefix: from its number up to hi -/
def hi (n s : Int) : Int := n + 2 ^ (16 - s).toNat
def Pf (n s : Int) : Prop := 0 ≤ s ∧ s ≤ 16 ∧ 0 ≤ n ∧ n < 65536 ∧ n % 2 ^ (16 - s).toNat = 0
theorem Pf.lt {n s : Int} (h : Pf n s) : n < hi n s := by
  obtain ⟨h1, h2, h3, h4, h5⟩ := h
  have := (pow_in ⟨h1, h2⟩).1
  unfold hi
  omega
theorem Pf.le {n s : Int} (h : Pf n s) : hi n s ≤ 131072 := by
  obtain ⟨h1, h2, h3, h4, h5⟩ := h
  have := (pow_in ⟨h1, h2⟩).2
  unfold hi
  omega
structure Ru where
  w : Str
  n1 : Int
  s1 : Int
  n2 : Int
  s2 : Int
  lo : Int
  up : Int
def dR (r : Ru) : D := .tuple [.str r.w, tupI [r.n1, r.s1], tupI [r.n2, r.s2], .int r.lo, .int r.up]
structure GR (r : Ru) : Prop where
  w : r.w = "let" ∨ r.w = "bar"
  p1 : Pf r.n1 r.s1
  p2 : Pf r.n2 r.s2
  m0 : 0 ≤ r.lo
  m1 : r.lo ≤ r.up
  m2 : r.up < 256
def fits (r : Ru) (s t m : Int) : Bool := decide (r.n1 ≤ s) && decide (s < hi r.n1 r.s1) && (decide (r.n2 ≤ t) && decide (t < hi r.n2 r.s2)) && (decide (r.lo ≤ m) && decide (m ≤ r.up))
def rest (rs : List Ru) : D := .list (rs.map dR)
section
variable {r : Ru}
theorem dR_0 : ixD (dR r) (.int 0) = some (.str r.w) := rfl
theorem dR_1 : ixD (dR r) (.int 1) = some (tupI [r.n1, r.s1]) := rfl
theorem dR_2 : ixD (dR r) (.int 2) = some (tupI [r.n2, r.s2]) := rfl
theorem dR_3 : ixD (dR r) (.int 3) = some (.int r.lo) := rfl
theorem dR_4 : ixD (dR r) (.int 4) = some (.int r.up) := rfl
end
section
variable {n s : Int}
theorem pf_0 : ixD (tupI [n, s]) (.int 0) = some (.int n) := rfl
theorem pf_1 : ixD (tupI [n, s]) (.int 1) = some (.int s) := rfl
theorem is_prefix_ok (h : Pf n s) : F_is_prefix [tupI [n, s]] = .ok (.bool true) := by
  obtain ⟨h1, h2, h3, h4, h5⟩ := h
  have hw := width_at ⟨h1, h2⟩
  obtain ⟨P, hP⟩ : ∃ P, P = (2 : Int) ^ (16 - s).toNat := ⟨_, rfl⟩
  have p0 := (pow_in ⟨h1, h2⟩).1
  rw [← hP] at hw p0 h5
  unfold F_is_prefix runB B_is_prefix
  simp [h1, h2, h3, h4, hw, mod_int p0, h5]
theorem span_ok (h : Pf n s) : F_span [tupI [n, s]] = .ok (tupI [n, hi n s - 1]) := by
  have hw := width_at ⟨h.1, h.2.1⟩
  have z2 : (2 : Nat) ≤ sizeLine := small_ok (by omega)
  have e : n + (2 : Int) ^ (16 - s).toNat = hi n s := rfl
  generalize (2 : Int) ^ (16 - s).toNat = P at hw e
  unfold F_span runB B_span
  simp [pf_0, pf_1, hw, z2, ← e]
theorem holds_ok (h : Pf n s) (a : Int) : F_holds [tupI [n, s], .int a] = .ok (.bool (decide (n ≤ a) && decide (a < hi n s))) := by
  have hw := width_at ⟨h.1, h.2.1⟩
  have e : n + (2 : Int) ^ (16 - s).toNat = hi n s := rfl
  generalize (2 : Int) ^ (16 - s).toNat = P at hw e
  unfold F_holds runB B_holds
  by_cases hn : n ≤ a <;> simp [pf_0, pf_1, hw, hn, ← e]
theorem law_holds_ok (h : Pf n s) (a : Int) : F__law_holds [tupI [n, s], .int a] = .ok (.bool (decide (n ≤ a) && decide (a < hi n s))) := by
  have hw := two_at (k := 16 - s) (by have := h.1; have := h.2.1; omega)
  have e : n + (2 : Int) ^ (16 - s).toNat = hi n s := rfl
  generalize (2 : Int) ^ (16 - s).toNat = P at hw e
  unfold F__law_holds runB B__law_holds
  by_cases hn : n ≤ a <;> simp [pf_0, pf_1, hw, hn, ← e]
end
theorem fits_ok {r : Ru} (h : GR r) (s t m : Int) : F_fits [dR r, .int s, .int t, .int m] = .ok (.bool (fits r s t m)) := by
  have h1 := holds_ok h.p1 s
  have h2 := holds_ok h.p2 t
  unfold F_fits runB B_fits fits
  generalize hb1 : (decide (r.n1 ≤ s) && decide (s < hi r.n1 r.s1)) = b1 at h1 ⊢
  generalize hb2 : (decide (r.n2 ≤ t) && decide (t < hi r.n2 r.s2)) = b2 at h2 ⊢
  cases b1 <;> cases b2 <;> by_cases hm : r.lo ≤ m <;> simp [dR_1, dR_2, dR_3, dR_4, h1, h2, hm]
end K03
set_option Elab.async false
set_option linter.all false
set_option maxRecDepth 100000
namespace K03
open PySem DP
theorem is_rule_ok {r : Ru} (h : GR r) : F_is_rule [dR r] = .ok (.bool true) := by
  have h1 := is_prefix_ok h.p1
  have h2 := is_prefix_ok h.p2
  have h3 : inD (.str r.w) (.tuple (([("let" : Str), "bar"] : List Str).map .str)) = some (.bool true) := by
    rcases h.w with e | e <;> rw [e] <;> rfl
  have m1 := h.m0
  have m2 := h.m1
  have m3 := h.m2
  obtain ⟨w, n1, s1, n2, s2, lo, up⟩ := r
  simp only at h1 h2 h3 m1 m2 m3
  unfold F_is_rule runB B_is_rule dR
  simp only [List.map_cons, List.map_nil] at h3
  simp [h1, h2, h3, m1, m2, m3]
def AllG (rs : List Ru) : Prop := ∀ r ∈ rs, GR r
theorem check_ok {rs : List Ru} (h : AllG rs) (hl : rs.length ≤ 20) : F_check_rules [rest rs] = .ok .none := by
  have e1 : enumD [rest rs] = some ((rs.zipIdx 0).map fun p => .tuple [.int (p.2 : Nat), dR p.1]) := by
    show some (enumF 0 (rs.map dR)) = _
    rw [enumF_map]
  obtain ⟨a, e2, h1, h2⟩ | ⟨e2, h1, h2, h3⟩ := for_first (F := fun p : Ru × Nat => .tuple [.int (p.2 : Nat), dR p.1]) (g := gT (glCons (gN 1) (glCons (gN 2) (glNil)))) (body := Y1_check_rules) (b := fun _ => false) (k := fun _ => .none) (fun env => ∃ a b, env = [.fz (rest rs), a, b]) (rs.zipIdx 0) [.fz (rest rs), .no, .no] (fun p hp env he => by
    obtain ⟨a, b, rfl⟩ := he
    have hr : GR p.1 := h _ (List.fst_mem_of_mem_zipIdx hp)
    refine ⟨[.fz (rest rs), .fz (.int (p.2 : Nat)), .fz (dR p.1)], rfl, (fun z => nomatch z), fun _ => ⟨[.fz (rest rs), .fz (.int (p.2 : Nat)), .fz (dR p.1)], ?_, _, _, rfl⟩⟩
    have := is_rule_ok hr
    unfold Y1_check_rules
    simp [this]) ⟨_, _, rfl⟩
  · have z : (rs.zipIdx 0).find? (fun _ => false) = none := List.find?_eq_none.mpr fun _ _ h => by cases h
    rw [z] at h1; cases h1
  · refine runB_nx (e := e2) ?_
    show B_check_rules [.fz (rest rs), .no, .no] = _
    have e3 : lenD [rest rs] = some (.int rs.length) := by simp [rest]
    have e4 : ¬ (20 : Int) < rs.length := by omega
    unfold B_check_rules
    generalize rest rs = R at *
    simp [e1, e3, e4, h2]
def fitsAt (rs : List Ru) (s t m : Int) : List (Ru × Nat) := (rs.zipIdx 0).filter fun p => fits p.1 s t m
def firstP (rs : List Ru) (s t m : Int) : Option Nat := (fitsAt rs s t m).head?.map (·.2)
def kD : Option Nat → D
  | none => .none
  | some k => .int (k : Nat)
def passP (rs : List Ru) (s t m : Int) : Bool := match (rs.filter fun r => fits r s t m).head? with
  | none => true
  | some r => decide (r.w = "let")
theorem first_fit_ok {rs : List Ru} (h : AllG rs) (hl : rs.length ≤ 10000) (s t m : Int) : F_first_fit [rest rs, .int s, .int t, .int m] = .ok (kD (firstP rs s t m)) := by
  have e1 : enumD [rest rs] = some ((rs.zipIdx 0).map fun p => .tuple [.int (p.2 : Nat), dR p.1]) := by
    show some (enumF 0 (rs.map dR)) = _
    rw [enumF_map]
  have q := cmp_map (F := fun p : Ru × Nat => .tuple [.int (p.2 : Nat), dR p.1]) (g := gT (glCons (gN 5) (glCons (gN 6) (glNil)))) (ts := tst (xCall 4 F_fits (aCons (xVar 6) (aCons (xVar 1) (aCons (xVar 2) (aCons (xVar 3) (aNil))))))) (el := E1_first_fit) (vs := [5, 6]) (env := [.fz (rest rs), .fz (.int s), .fz (.int t), .fz (.int m), .no, .no, .no])
    (b := fun p => fits p.1 s t m) (f := fun p => .int (p.2 : Nat)) (rs.zipIdx 0) (fun p hp => by
      have hr : GR p.1 := h _ (List.fst_mem_of_mem_zipIdx hp)
      have := fits_ok hr s t m
      refine ⟨[.fz (rest rs), .fz (.int s), .fz (.int t), .fz (.int m), .no, .fz (.int (p.2 : Nat)), .fz (dR p.1)], rfl, by simp [this], fun _ => by simp [E1_first_fit], rfl⟩)
  have hz : ((fitsAt rs s t m).map fun p => PyData.int ((p.2 : Nat) : Int)).length ≤ sizeLine := by
    rw [List.length_map]
    refine small_ok (Nat.le_trans (List.length_filter_le _ _) ?_)
    rw [List.length_zipIdx]
    omega
  refine runB_rt (e := [.fz (rest rs), .fz (.int s), .fz (.int t), .fz (.int m), .fz (.list ((fitsAt rs s t m).map fun p => .int (p.2 : Nat))), .no, .no]) ?_
  show B_first_fit [.fz (rest rs), .fz (.int s), .fz (.int t), .fz (.int m), .no, .no, .no] = _
  unfold B_first_fit
  generalize rest rs = R at *
  have c := comp_ok (vs := [5, 6]) (env := [.fz R, .fz (.int s), .fz (.int t), .fz (.int m), .no, .no, .no]) (args_ok (l := aCons (xVar 0) aNil) (e1 := [.fz R, .fz (.int s), .fz (.int t), .fz (.int m), .no, .no, .no]) rfl e1) q hz
  have s1 : sSet 4 (xComp (iArgs enumD (aCons (xVar 0) aNil)) (gT (glCons (gN 5) (glCons (gN 6) glNil))) (tst (xCall 4 F_fits (aCons (xVar 6) (aCons (xVar 1) (aCons (xVar 2) (aCons (xVar 3) aNil)))))) E1_first_fit [5, 6]) [.fz R, .fz (.int s), .fz (.int t), .fz (.int m), .no, .no, .no] = .ok (.nx, [.fz R, .fz (.int s), .fz (.int t), .fz (.int m), .fz (.list ((fitsAt rs s t m).map fun p => .int (p.2 : Nat))), .no, .no]) := by
    rw [sSet_ap, c]
    rfl
  rw [seq_nx s1]
  unfold firstP
  cases hf : fitsAt rs s t m with
  | nil => simp [kD]
  | cons p L =>
    have : (0 : Int) < ((L.map fun p => PyData.int ((p.2 : Nat) : Int)).length : Int) + 1 := by omega
    simp [kD]
end K03
set_option Elab.async false
set_option linter.all false
set_option maxRecDepth 100000
namespace K03
open PySem DP
theorem head_filter (rs : List Ru) (s t m : Int) : (rs.filter fun r => fits r s t m).head? = (fitsAt rs s t m).head?.map (·.1) := by
  unfold fitsAt
  rw [← zip_filter (fun r => fits r s t m) 0 rs, List.head?_map]
theorem fitsAt_at {rs : List Ru} {s t m : Int} {p : Ru × Nat} (h : (fitsAt rs s t m).head? = some p) : rs[p.2]? = some p.1 := by
  have h1 : p ∈ fitsAt rs s t m := List.mem_of_mem_head? h
  have h2 : p ∈ rs.zipIdx 0 := (List.mem_filter.mp h1).1
  exact List.mem_zipIdx_iff_getElem?.mp h2
theorem passes_ok {rs : List Ru} (h : AllG rs) (hl : rs.length ≤ 10000) (s t m : Int) : F_passes [rest rs, .int s, .int t, .int m] = .ok (.bool (passP rs s t m)) := by
  have h1 := first_fit_ok h hl s t m
  unfold firstP at h1
  unfold passP
  rw [head_filter]
  cases e : (fitsAt rs s t m).head? with
  | none =>
    rw [e] at h1
    simp only [Option.map_none, kD] at h1
    unfold F_passes runB B_passes
    generalize rest rs = R at *
    simp [h1, isN, isNb]
  | some p =>
    rw [e] at h1
    simp only [Option.map_some, kD] at h1
    have q : ixD (rest rs) (.int (p.2 : Nat)) = some (dR p.1) := by
      show L2.atI (rs.map dR) ((p.2 : Nat) : Int) = _
      have q := fitsAt_at e
      have lt : p.2 < (rs.map dR).length := by rw [List.length_map]; exact (List.getElem?_eq_some_iff.mp q).1
      rw [atI_lt lt, List.getElem?_map, q]
      rfl
    have q0 := dR_0 (r := p.1)
    unfold F_passes runB B_passes
    generalize rest rs = R at *
    generalize dR p.1 = Q at *
    simp [h1, isN, isNb, q, q0]
theorem plain_dR (r : Ru) : (dR r).plain = true := by simp [dR, PyData.plain, PyData.plainAll]
theorem plain_rest (rs : List Ru) : (rest rs).plain = true := by
  unfold rest
  have : ∀ rs : List Ru, PyData.plainAll (rs.map dR) = true := by
    intro rs
    induction rs with
    | nil => rfl
    | cons r rs ih => rw [List.map_cons, PyData.plainAll, plain_dR, ih]; rfl
  rw [PyData.plain]
  exact this rs
theorem eq_nil (rs : List Ru) : eqD (rest rs) (.list []) = some (.bool rs.isEmpty) := by
  unfold eqD
  have d : okD (rest rs) (.list []) = true := by
    unfold okD
    refine decide_eq_true ?_
    refine Nat.le_trans (Nat.min_le_right _ _) ?_
    decide
  rw [plain_rest, d]
  cases rs <;> simp [rest, PyData.plain, PyData.plainAll, PyData.eqv, PyData.eqvAll]
theorem law_passes_ok {rs : List Ru} (h : AllG rs) (hl : rs.length ≤ 10000) (s t m : Int) : F__law_passes [rest rs, .int s, .int t, .int m] = .ok (.bool (passP rs s t m)) := by
  have q := cmp_map (F := dR) (g := gN 5) (ts := tAndF (tst (xCall 2 F__law_holds (aCons (x2 ixD (xVar 5) (xConst (.int 1))) (aCons (xVar 1) (aNil))))) (tAndF (tst (xCall 2 F__law_holds (aCons (x2 ixD (xVar 5) (xConst (.int 2))) (aCons (xVar 2) (aNil))))) (tst (xChain leD leD (x2 ixD (xVar 5) (xConst (.int 3))) (xVar 3) (x2 ixD (xVar 5) (xConst (.int 4))))))) (el := E1__law_passes) (vs := [5]) (env := [.fz (rest rs), .fz (.int s), .fz (.int t), .fz (.int m), .no, .no])
    (b := fun r => fits r s t m) (f := dR) rs (fun r hr => by
      have hG := h r hr
      have h1 := law_holds_ok hG.p1 s
      have h2 := law_holds_ok hG.p2 t
      refine ⟨[.fz (rest rs), .fz (.int s), .fz (.int t), .fz (.int m), .no, .fz (dR r)], rfl, ?_, fun _ => by simp [E1__law_passes], rfl⟩
      unfold fits
      generalize hb1 : (decide (r.n1 ≤ s) && decide (s < hi r.n1 r.s1)) = b1 at h1 ⊢
      generalize hb2 : (decide (r.n2 ≤ t) && decide (t < hi r.n2 r.s2)) = b2 at h2 ⊢
      have x1 := dR_1 (r := r)
      have x2 := dR_2 (r := r)
      have x3 := dR_3 (r := r)
      have x4 := dR_4 (r := r)
      generalize dR r = R at *
      cases b1 <;> cases b2 <;> by_cases hm : r.lo ≤ m <;> simp [x1, x2, x3, x4, h1, h2, hm])
  have hz : ((rs.filter fun r => fits r s t m).map dR).length ≤ sizeLine := by
    rw [List.length_map]
    exact small_ok (Nat.le_trans (List.length_filter_le _ _) (by omega))
  have c := comp_ok (vs := [5]) (env := [.fz (rest rs), .fz (.int s), .fz (.int t), .fz (.int m), .no, .no]) (seq_ok (f := xVar 0) (e1 := [.fz (rest rs), .fz (.int s), .fz (.int t), .fz (.int m), .no, .no]) (d := rest rs) (xs := rs.map dR) rfl rfl) q hz
  refine runB_rt (e := [.fz (rest rs), .fz (.int s), .fz (.int t), .fz (.int m), .fz (rest (rs.filter fun r => fits r s t m)), .no]) ?_
  show B__law_passes [.fz (rest rs), .fz (.int s), .fz (.int t), .fz (.int m), .no, .no] = _
  unfold B__law_passes
  have s1 : sSet 4 (xComp (iSeq (xVar 0)) (gN 5) (tAndF (tst (xCall 2 F__law_holds (aCons (x2 ixD (xVar 5) (xConst (.int 1))) (aCons (xVar 1) (aNil))))) (tAndF (tst (xCall 2 F__law_holds (aCons (x2 ixD (xVar 5) (xConst (.int 2))) (aCons (xVar 2) (aNil))))) (tst (xChain leD leD (x2 ixD (xVar 5) (xConst (.int 3))) (xVar 3) (x2 ixD (xVar 5) (xConst (.int 4))))))) (E1__law_passes) [5]) [.fz (rest rs), .fz (.int s), .fz (.int t), .fz (.int m), .no, .no] = .ok (.nx, [.fz (rest rs), .fz (.int s), .fz (.int t), .fz (.int m), .fz (rest (rs.filter fun r => fits r s t m)), .no]) := by
    rw [sSet_ap, c]
    rfl
  rw [seq_nx s1]
  unfold passP
  have e := eq_nil (rs.filter fun r => fits r s t m)
  have z0 : (0 : Nat) ≤ sizeLine := Nat.zero_le _
  cases hL : rs.filter (fun r => fits r s t m) with
  | nil =>
    rw [hL] at e
    simp only [List.isEmpty_nil] at e
    generalize rest rs = R
    generalize rest [] = R' at *
    simp [e]
  | cons r L =>
    rw [hL] at e
    have i0 : ixD (rest (r :: L)) (.int 0) = some (dR r) := by simp [rest]
    have i1 := dR_0 (r := r)
    simp only [List.isEmpty_cons] at e
    generalize rest rs = R
    generalize rest (r :: L) = R' at *
    generalize dR r = Q at *
    simp [e, i0, i1]
theorem lets_ok {rs : List Ru} (h : AllG rs) (hl : rs.length ≤ 20) (s t m : Int) : F_lets [rest rs, .int s, .int t, .int m] = .ok (.bool (passP rs s t m)) := by
  have h1 := check_ok h hl
  have h2 := passes_ok h (by omega) s t m
  unfold F_lets runB B_lets
  generalize rest rs = R at *
  simp [h1, h2]
end K03
set_option Elab.async false
set_option linter.all false
set_option maxRecDepth 100000
namespace K03
open PySem DP
/-- what begins below most -/
def stZ (most : Int) (xs : List Int) : List Int := setZ (xs.filter fun x => decide (x < most))
theorem ext_ok {ds : List D} {a b : D} (h : ds.length ≤ 1000000) : opExt ds [.list [a, b]] = some (.none, ds ++ [a, b]) := by
  have : ds.length + 2 ≤ sizeLine := by rw [sizeLine_eq]; omega
  simp [opExt, this]
theorem below_ok (xs : List Int) (most : Int) {R : Ev} {g : GF} {ts : TF} {el : XF} {vs : List Nat} (h : ∀ x ∈ xs, ∃ e1, g (.int x) R = some e1 ∧ ts e1 = .ok (decide (x < most), e1) ∧ (decide (x < most) = true → el e1 = .ok (.int x, e1)) ∧ wipeE e1 vs = R) : cmpL g ts el vs (xs.map .int) R = .ok ((xs.filter fun x => decide (x < most)).map .int, R) :=
  cmp_map (F := PyData.int) (b := fun x => decide (x < most)) (f := PyData.int) xs h
theorem starts_ok (ps : List (Int × Int)) (hl : ps.length ≤ 30) (most : Int) : F_starts [.list (ps.map fun p => tupI [p.1, p.2]), .int most] = .ok (.list ((stZ most (0 :: ps.flatMap fun p => [p.1, p.2 + 1])).map .int)) := by
  obtain ⟨SP, hSP⟩ : ∃ SP, SP = PyData.list (ps.map fun p => tupI [p.1, p.2]) := ⟨_, rfl⟩
  have z2 : (2 : Nat) ≤ sizeLine := small_ok (by omega)
  have z1 : (1 : Nat) ≤ sizeLine := small_ok (by omega)
  obtain ⟨e2, h1, _, _, a, b, h2⟩ := for_fold (F := fun p : Int × Int => tupI [p.1, p.2]) (g := gT (glCons (gN 3) (glCons (gN 4) glNil))) (body := Y1_starts) (st := fun (b : List Int) p => b ++ [p.1, p.2 + 1])
    (fun n xs env => n ≤ 30 ∧ xs.length ≤ 1 + 2 * (30 - n) ∧ ∃ a b, env = [.fz SP, .fz (.int most), .ow none (.list (xs.map .int)), a, b, .no]) ps [0] [.fz SP, .fz (.int most), .ow none (.list [.int 0]), .no, .no, .no]
    (fun p _ n xs env he => by
      obtain ⟨hn, hx, a, b, rfl⟩ := he
      have e := ext_ok (ds := xs.map PyData.int) (a := .int p.1) (b := .int (p.2 + 1)) (by rw [List.length_map]; omega)
      refine ⟨[.fz SP, .fz (.int most), .ow none (.list (xs.map .int)), .fz (.int p.1), .fz (.int p.2), .no], [.fz SP, .fz (.int most), .ow none (.list ((xs ++ [p.1, p.2 + 1]).map .int)), .fz (.int p.1), .fz (.int p.2), .no], rfl, ?_, by omega, ?_, _, _, rfl⟩
      · simp [Y1_starts, z2, e]
      · rw [List.length_append]; simp only [List.length_cons, List.length_nil]; omega) ⟨hl, by simp, _, _, rfl⟩
  rw [foldl_app] at h2
  obtain ⟨xs, hxs⟩ : ∃ xs, xs = ([0] : List Int) ++ ps.flatMap fun p => [p.1, p.2 + 1] := ⟨_, rfl⟩
  have hxl : xs.length ≤ 61 := by
    have : ∀ ps : List (Int × Int), (ps.flatMap fun p => [p.1, p.2 + 1]).length = 2 * ps.length := by
      intro ps
      induction ps with
      | nil => rfl
      | cons p ps ih => rw [List.flatMap_cons, List.length_append, ih]; simp only [List.length_cons, List.length_nil]; omega
    rw [hxs, List.length_append, this]
    simp only [List.length_cons, List.length_nil]
    omega
  rw [← hxs] at h2
  subst h2
  have e0 : (0 : Int) :: ps.flatMap (fun p => [p.1, p.2 + 1]) = xs := hxs.symm
  rw [← hSP, e0]
  have sq : seqD SP = some (ps.map fun p => tupI [p.1, p.2]) := by rw [hSP]; rfl
  have q := below_ok xs most (R := [.fz SP, .fz (.int most), .fz (.list (xs.map .int)), a, b, .no]) (g := gN 5) (ts := tst (x2 ltD (xVar 5) (xVar 1))) (el := E2_starts) (vs := [5]) fun x _ => ⟨[.fz SP, .fz (.int most), .fz (.list (xs.map .int)), a, b, .fz (.int x)], rfl, by simp, fun _ => by simp [E2_starts], rfl⟩
  have ql : (xs.filter fun x => decide (x < most)).length ≤ 61 := Nat.le_trans (List.length_filter_le _ _) hxl
  have c := comp_ok (it := iSeq (xVar 2)) (vs := [5]) (env := [.fz SP, .fz (.int most), .ow none (.list (xs.map .int)), a, b, .no]) (e1 := [.fz SP, .fz (.int most), .fz (.list (xs.map .int)), a, b, .no]) (xs := xs.map .int) rfl q (by rw [List.length_map]; exact small_ok (by omega))
  have ss := sortSetI_ok (xs := xs.filter fun x => decide (x < most)) (by omega)
  refine runB_rt (e := backE [.fz SP, .fz (.int most), .fz (.list (xs.map .int)), a, b, .no] [.fz SP, .fz (.int most), .fz (.list (xs.map .int)), a, b, .no] [5]) ?_
  show B_starts [.fz SP, .fz (.int most), .no, .no, .no, .no] = _
  unfold B_starts
  have s1 : sOwn 2 (xLst (aCons (xConst (.int 0)) aNil)) [.fz SP, .fz (.int most), .no, .no, .no, .no] = .ok (.nx, [.fz SP, .fz (.int most), .ow none (.list [.int 0]), .no, .no, .no]) := by simp [z1]
  rw [seq_nx s1, seq_nx ((for_seq (f := xVar 0) (d := SP) rfl sq).trans h1), sRet_ap, xSortSetI_ap, c]
  simp only [Out.bind_ok, ss, liftO_some]
  rfl
def srcs (rs : List Ru) : List Int := stZ 65536 (0 :: rs.flatMap fun r => [r.n1, hi r.n1 r.s1])
def tgts (rs : List Ru) : List Int := stZ 65536 (0 :: rs.flatMap fun r => [r.n2, hi r.n2 r.s2])
def mrks (rs : List Ru) : List Int := stZ 256 (0 :: rs.flatMap fun r => [r.lo, r.up + 1])
theorem corners_ok {rs : List Ru} (h : AllG rs) (hl : rs.length ≤ 30) : F_corners [rest rs] = .ok (.tuple [.list ((srcs rs).map .int), .list ((tgts rs).map .int), .list ((mrks rs).map .int)]) := by
  have a1 := starts_ok (rs.map fun r => (r.n1, hi r.n1 r.s1 - 1)) (by rw [List.length_map]; exact hl) 65536
  have a2 := starts_ok (rs.map fun r => (r.n2, hi r.n2 r.s2 - 1)) (by rw [List.length_map]; exact hl) 65536
  have a3 := starts_ok (rs.map fun r => (r.lo, r.up)) (by rw [List.length_map]; exact hl) 256
  simp only [List.map_map, List.flatMap_map] at a1 a2 a3
  have e1 : (fun r : Ru => [r.n1, hi r.n1 r.s1 - 1 + 1]) = fun r => [r.n1, hi r.n1 r.s1] := by funext r; rw [show hi r.n1 r.s1 - 1 + 1 = hi r.n1 r.s1 by omega]
  have e2 : (fun r : Ru => [r.n2, hi r.n2 r.s2 - 1 + 1]) = fun r => [r.n2, hi r.n2 r.s2] := by funext r; rw [show hi r.n2 r.s2 - 1 + 1 = hi r.n2 r.s2 by omega]
  rw [e1] at a1
  rw [e2] at a2
  have hz : ∀ f : Ru → D, (rs.map f).length ≤ sizeLine := fun f => by rw [List.length_map]; exact small_ok (by omega)
  have q1 := fun a b : Sl => cmp_mapT (F := dR) (g := gN 3) (el := E1_corners) (vs := [3]) (env := [.fz (rest rs), a, b, .no]) (f := fun r => tupI [r.n1, hi r.n1 r.s1 - 1]) rs fun r hr => ⟨[.fz (rest rs), a, b, .fz (dR r)], rfl, by have := span_ok (h r hr).p1; have x := dR_1 (r := r); generalize dR r = Q at *; simp [E1_corners, this, x], rfl⟩
  have q2 := fun a b : Sl => cmp_mapT (F := dR) (g := gN 3) (el := E2_corners) (vs := [3]) (env := [.fz (rest rs), a, b, .no]) (f := fun r => tupI [r.n2, hi r.n2 r.s2 - 1]) rs fun r hr => ⟨[.fz (rest rs), a, b, .fz (dR r)], rfl, by have := span_ok (h r hr).p2; have x := dR_2 (r := r); generalize dR r = Q at *; simp [E2_corners, this, x], rfl⟩
  have z2 : (2 : Nat) ≤ sizeLine := small_ok (by omega)
  have z3 : (3 : Nat) ≤ sizeLine := small_ok (by omega)
  have q3 := fun a b : Sl => cmp_mapT (F := dR) (g := gN 3) (el := E3_corners) (vs := [3]) (env := [.fz (rest rs), a, b, .no]) (f := fun r => tupI [r.lo, r.up]) rs fun r hr => ⟨[.fz (rest rs), a, b, .fz (dR r)], rfl, by have x := dR_3 (r := r); have y := dR_4 (r := r); generalize dR r = Q at *; simp [E3_corners, x, y, z2], rfl⟩
  have sq : seqD (rest rs) = some (rs.map dR) := rfl
  have c1 := fun a b : Sl => comp_ok (it := iSeq (xVar 0)) (vs := [3]) (env := [.fz (rest rs), a, b, .no]) (e1 := [.fz (rest rs), a, b, .no]) rfl (q1 a b) (hz _)
  have c2 := fun a b : Sl => comp_ok (it := iSeq (xVar 0)) (vs := [3]) (env := [.fz (rest rs), a, b, .no]) (e1 := [.fz (rest rs), a, b, .no]) rfl (q2 a b) (hz _)
  have c3 := fun a b : Sl => comp_ok (it := iSeq (xVar 0)) (vs := [3]) (env := [.fz (rest rs), a, b, .no]) (e1 := [.fz (rest rs), a, b, .no]) rfl (q3 a b) (hz _)
  have back : ∀ a b : Sl, backE [.fz (rest rs), a, b, .no] [.fz (rest rs), a, b, .no] [3] = [.fz (rest rs), a, b, .no] := fun _ _ => rfl
  simp only [back] at c1 c2 c3
  have a1 : F_starts [.list (rs.map fun r => tupI [r.n1, hi r.n1 r.s1 - 1]), .int 65536] = .ok (.list ((srcs rs).map .int)) := a1
  have a2 : F_starts [.list (rs.map fun r => tupI [r.n2, hi r.n2 r.s2 - 1]), .int 65536] = .ok (.list ((tgts rs).map .int)) := a2
  have a3 : F_starts [.list (rs.map fun r => tupI [r.lo, r.up]), .int 256] = .ok (.list ((mrks rs).map .int)) := a3
  generalize PyData.list (rs.map fun r => tupI [r.n1, hi r.n1 r.s1 - 1]) = P1 at *
  generalize PyData.list (rs.map fun r => tupI [r.n2, hi r.n2 r.s2 - 1]) = P2 at *
  generalize PyData.list (rs.map fun r => tupI [r.lo, r.up]) = P3 at *
  generalize PyData.list ((srcs rs).map .int) = S1 at *
  generalize PyData.list ((tgts rs).map .int) = S2 at *
  generalize PyData.list ((mrks rs).map .int) = S3 at *
  clear q1 q2 q3
  generalize rest rs = R at *
  unfold F_corners runB B_corners
  simp [c1, c2, c3, a1, a2, a3, z3, -xComp_ap]
end K03
set_option Elab.async false
set_option linter.all false
set_option maxRecDepth 100000
namespace K03
open PySem DP
abbrev dT (p : Int × Int × Int) : D := tupI [p.1, p.2.1, p.2.2]
/-- all triples of what begins somewhere -/
def grid (S T M : List Int) : List (Int × Int × Int) := S.flatMap fun s => T.flatMap fun t => M.map fun m => (s, t, m)
def trip (rs : List Ru) : List (Int × Int × Int) := grid (srcs rs) (tgts rs) (mrks rs)
theorem flat_len {α β : Type} {f : α → List β} {n : Nat} : ∀ L : List α, (∀ a ∈ L, (f a).length ≤ n) → (L.flatMap f).length ≤ L.length * n
  | [], _ => by simp
  | a :: L, h => by
    rw [List.flatMap_cons, List.length_append, List.length_cons, Nat.succ_mul]
    have := flat_len L fun x hx => h x (List.mem_cons_of_mem _ hx)
    have := h a List.mem_cons_self
    omega
theorem two_len {f g : Ru → Int} : ∀ rs : List Ru, (rs.flatMap fun r => [f r, g r]).length = 2 * rs.length
  | [] => rfl
  | r :: rs => by rw [List.flatMap_cons, List.length_append, two_len rs]; simp only [List.length_cons, List.length_nil]; omega
theorem stZ_len (most : Int) (xs : List Int) : (stZ most xs).length ≤ xs.length := Nat.le_trans (setZ_len _) (List.length_filter_le _ _)
theorem srcs_len {rs : List Ru} (hl : rs.length ≤ 30) : (srcs rs).length ≤ 61 := by
  refine Nat.le_trans (stZ_len _ _) ?_
  rw [List.length_cons, two_len]; omega
theorem tgts_len {rs : List Ru} (hl : rs.length ≤ 30) : (tgts rs).length ≤ 61 := by
  refine Nat.le_trans (stZ_len _ _) ?_
  rw [List.length_cons, two_len]; omega
theorem mrks_len {rs : List Ru} (hl : rs.length ≤ 30) : (mrks rs).length ≤ 61 := by
  refine Nat.le_trans (stZ_len _ _) ?_
  rw [List.length_cons, two_len]; omega
theorem grid_len {S T M : List Int} (h1 : S.length ≤ 61) (h2 : T.length ≤ 61) (h3 : M.length ≤ 61) : (grid S T M).length ≤ 226981 := by
  have a1 := flat_len (f := fun s => T.flatMap fun t => M.map fun m => (s, t, m)) (n := 3721) S fun s _ => by
    have a2 := flat_len (f := fun t => M.map fun m => (s, t, m)) (n := 61) T fun t _ => by rw [List.length_map]; exact h3
    omega
  have : S.length * 3721 ≤ 61 * 3721 := Nat.mul_le_mul_right _ h1
  unfold grid
  omega
theorem trip_len {rs : List Ru} (hl : rs.length ≤ 30) : (trip rs).length ≤ 226981 := grid_len (srcs_len hl) (tgts_len hl) (mrks_len hl)
theorem grid_map (S T M : List Int) : (grid S T M).map dT = S.flatMap fun s => T.flatMap fun t => M.map fun m => tupI [s, t, m] := by
  unfold grid
  rw [List.map_flatMap]
  congr 1
  funext s
  rw [List.map_flatMap]
  congr 1
  funext t
  rw [List.map_map]
  rfl
theorem flat_one {α β : Type} (f : α → β) : ∀ L : List α, (L.flatMap fun a => [f a]) = L.map f
  | [] => rfl
  | a :: L => by rw [List.flatMap_cons, flat_one f L]; rfl
theorem triples_ok {rs : List Ru} (h : AllG rs) (hl : rs.length ≤ 30) : F_triples_of [rest rs] = .ok (.list ((trip rs).map dT)) := by
  have hc := corners_ok h hl
  have z3 : (3 : Nat) ≤ sizeLine := small_ok (by omega)
  have ln : ((trip rs).map dT).length ≤ sizeLine := by rw [List.length_map]; exact small_ok (Nat.le_trans (trip_len hl) (by omega))
  unfold trip at ln ⊢
  generalize srcs rs = S at *
  generalize tgts rs = T at *
  generalize mrks rs = M at *
  obtain ⟨DS, hDS⟩ : ∃ DS, DS = PyData.list (S.map .int) := ⟨_, rfl⟩
  obtain ⟨DT, hDT⟩ : ∃ DS, DS = PyData.list (T.map .int) := ⟨_, rfl⟩
  obtain ⟨DM, hDM⟩ : ∃ DS, DS = PyData.list (M.map .int) := ⟨_, rfl⟩
  rw [← hDS, ← hDT, ← hDM] at hc
  have sS : seqD DS = some (S.map .int) := by rw [hDS]; rfl
  have sT : seqD DT = some (T.map .int) := by rw [hDT]; rfl
  have sM : seqD DM = some (M.map .int) := by rw [hDM]; rfl
  generalize rest rs = R at *
  have q : loopL (nestL E1_triples_of [⟨iSeq (xVar 2), gN 5, tTrue, [5], [5, 6]⟩, ⟨iSeq (xVar 3), gN 6, tTrue, [6], [6]⟩]) (gN 4) tTrue [4, 5, 6] (S.map .int) [.fz R, .fz DS, .fz DT, .fz DM, .no, .no, .no] = .ok (S.flatMap fun s => T.flatMap fun t => M.map fun m => tupI [s, t, m], [.fz R, .fz DS, .fz DT, .fz DM, .no, .no, .no]) := by
    refine loop_map (F := PyData.int) S fun s _ => ⟨[.fz R, .fz DS, .fz DT, .fz DM, .fz (.int s), .no, .no], [.fz R, .fz DS, .fz DT, .fz DM, .fz (.int s), .no, .no], rfl, ?_, rfl⟩
    have q1 : loopL (nestL E1_triples_of [⟨iSeq (xVar 3), gN 6, tTrue, [6], [6]⟩]) (gN 5) tTrue [5, 6] (T.map .int) [.fz R, .fz DS, .fz DT, .fz DM, .fz (.int s), .no, .no] = .ok (T.flatMap fun t => M.map fun m => tupI [s, t, m], [.fz R, .fz DS, .fz DT, .fz DM, .fz (.int s), .no, .no]) := by
      refine loop_map (F := PyData.int) T fun t _ => ⟨[.fz R, .fz DS, .fz DT, .fz DM, .fz (.int s), .fz (.int t), .no], [.fz R, .fz DS, .fz DT, .fz DM, .fz (.int s), .fz (.int t), .no], rfl, ?_, rfl⟩
      have q2 : loopL (nestL E1_triples_of []) (gN 6) tTrue [6] (M.map .int) [.fz R, .fz DS, .fz DT, .fz DM, .fz (.int s), .fz (.int t), .no] = .ok (M.flatMap fun m => [tupI [s, t, m]], [.fz R, .fz DS, .fz DT, .fz DM, .fz (.int s), .fz (.int t), .no]) := by
        refine loop_map (F := PyData.int) M fun m _ => ⟨[.fz R, .fz DS, .fz DT, .fz DM, .fz (.int s), .fz (.int t), .fz (.int m)], [.fz R, .fz DS, .fz DT, .fz DM, .fz (.int s), .fz (.int t), .fz (.int m)], rfl, ?_, rfl⟩
        unfold nestL E1_triples_of
        simp [z3]
      rw [flat_one] at q2
      unfold nestL
      dsimp only
      rw [seq_ok (f := xVar 3) (d := DM) (e1 := [.fz R, .fz DS, .fz DT, .fz DM, .fz (.int s), .fz (.int t), .no]) rfl sM]
      exact q2
    unfold nestL
    dsimp only
    rw [seq_ok (f := xVar 2) (d := DT) (e1 := [.fz R, .fz DS, .fz DT, .fz DM, .fz (.int s), .no, .no]) rfl sT]
    exact q1
  rw [grid_map] at ln ⊢
  refine runB_rt (e := [.fz R, .fz DS, .fz DT, .fz DM, .no, .no, .no]) ?_
  show B_triples_of [.fz R, .no, .no, .no, .no, .no, .no] = _
  unfold B_triples_of
  have s1 : sAsg (gT (glCons (gN 1) (glCons (gN 2) (glCons (gN 3) (glNil))))) (xCall 1 F_corners (aCons (xVar 0) (aNil))) [.fz R, .no, .no, .no, .no, .no, .no] = .ok (.nx, [.fz R, .fz DS, .fz DT, .fz DM, .no, .no, .no]) := by simp [hc]
  rw [seq_nx s1, sRet_ap]
  unfold xCompN
  rw [seq_ok (f := xVar 1) (d := DS) (e1 := [.fz R, .fz DS, .fz DT, .fz DM, .no, .no, .no]) rfl sS]
  simp only [Out.bind_ok]
  rw [show wipeE [Sl.fz R, .fz DS, .fz DT, .fz DM, .no, .no, .no] [4, 5, 6] = [.fz R, .fz DS, .fz DT, .fz DM, .no, .no, .no] from rfl, q]
  simp only [if_pos ln, Out.bind_ok]
  rfl
end K03
set_option Elab.async false
set_option linter.all false
set_option maxRecDepth 100000
namespace K03
open PySem DP
theorem add_lists {xs ys : List D} (h : xs.length + ys.length ≤ 1000000) : addD (.list xs) (.list ys) = some (.list (xs ++ ys)) := if_pos (small_ok h)
/-- a slot that a comprehension brings back -/
def Bk (a : Sl) : Prop := (match (some a : Option Sl) with | some (.fz d) => Sl.fz d | _ => .no) = a
/-- the three rows of what begins somewhere, as the law gathers them -/
theorem gather_ok {rs : List Ru} (h : AllG rs) (hl : rs.length ≤ 30) : ∃ a, Bk a ∧ forL (gN 4) Y1__law_corners (rs.map dR) [.fz (rest rs), .fz (.list [.int 0]), .fz (.list [.int 0]), .fz (.list [.int 0]), .no, .no, .no, .no, .no] =
    .ok (.nx, [.fz (rest rs), .fz (.list ((0 :: rs.flatMap fun r => [r.n1, hi r.n1 r.s1]).map .int)), .fz (.list ((0 :: rs.flatMap fun r => [r.n2, hi r.n2 r.s2]).map .int)), .fz (.list ((0 :: rs.flatMap fun r => [r.lo, r.up + 1]).map .int)), a, .no, .no, .no, .no]) := by
  have z2 : (2 : Nat) ≤ sizeLine := small_ok (by omega)
  generalize hR : rest rs = R
  obtain ⟨e2, h1, _, _, _, _, a, ha, h2⟩ := for_fold (F := dR) (g := gN 4) (body := Y1__law_corners) (st := fun (b : List Int × List Int × List Int) r => (b.1 ++ [r.n1, hi r.n1 r.s1], b.2.1 ++ [r.n2, hi r.n2 r.s2], b.2.2 ++ [r.lo, r.up + 1]))
    (fun n b env => n ≤ 30 ∧ b.1.length ≤ 1 + 2 * (30 - n) ∧ b.2.1.length ≤ 1 + 2 * (30 - n) ∧ b.2.2.length ≤ 1 + 2 * (30 - n) ∧ ∃ a, Bk a ∧ env = [.fz R, .fz (.list (b.1.map .int)), .fz (.list (b.2.1.map .int)), .fz (.list (b.2.2.map .int)), a, .no, .no, .no, .no]) rs ([0], [0], [0]) [.fz R, .fz (.list [.int 0]), .fz (.list [.int 0]), .fz (.list [.int 0]), .no, .no, .no, .no, .no]
    (fun r hr n b env he => by
      obtain ⟨hn, l1, l2, l3, a, _, rfl⟩ := he
      obtain ⟨b1, b2, b3⟩ := b
      simp only at l1 l2 l3 ⊢
      have hG := h r hr
      have w1 := two_at (k := 16 - r.s1) (by have := hG.p1.1; have := hG.p1.2.1; omega)
      have w2 := two_at (k := 16 - r.s2) (by have := hG.p2.1; have := hG.p2.2.1; omega)
      have e1 : r.n1 + (2 : Int) ^ (16 - r.s1).toNat = hi r.n1 r.s1 := rfl
      have e2 : r.n2 + (2 : Int) ^ (16 - r.s2).toNat = hi r.n2 r.s2 := rfl
      generalize (2 : Int) ^ (16 - r.s1).toNat = P1 at w1 e1
      generalize (2 : Int) ^ (16 - r.s2).toNat = P2 at w2 e2
      have x1 := dR_1 (r := r)
      have x2 := dR_2 (r := r)
      have x3 := dR_3 (r := r)
      have x4 := dR_4 (r := r)
      have ad : ∀ (l : List Int) (x y : Int), l.length ≤ 1 + 2 * (30 - (n + 1)) → addD (.list (l.map .int)) (.list [.int x, .int y]) = some (.list ((l ++ [x, y]).map .int)) := fun l x y hl => by
        rw [add_lists (by rw [List.length_map]; simp only [List.length_cons, List.length_nil]; omega), List.map_append]
        rfl
      have a1 := ad b1 r.n1 (hi r.n1 r.s1) l1
      have a2 := ad b2 r.n2 (hi r.n2 r.s2) l2
      have a3 := ad b3 r.lo (r.up + 1) l3
      rw [← e1] at a1 ⊢
      rw [← e2] at a2 ⊢
      refine ⟨[.fz R, .fz (.list (b1.map .int)), .fz (.list (b2.map .int)), .fz (.list (b3.map .int)), .fz (dR r), .no, .no, .no, .no], _, rfl, ?_, by omega, ?_, ?_, ?_, .fz (dR r), (rfl : Bk (.fz (dR r))), rfl⟩
      · generalize PyData.list (b1.map .int) = B1 at *
        generalize PyData.list (b2.map .int) = B2 at *
        generalize PyData.list (b3.map .int) = B3 at *
        generalize PyData.list ((b1 ++ [r.n1, r.n1 + P1]).map .int) = C1 at *
        generalize PyData.list ((b2 ++ [r.n2, r.n2 + P2]).map .int) = C2 at *
        generalize PyData.list ((b3 ++ [r.lo, r.up + 1]).map .int) = C3 at *
        generalize dR r = Q at *
        unfold Y1__law_corners
        simp [x1, x2, x3, x4, w1, w2, z2, a1, a2, a3]
      · rw [List.length_append]; simp only [List.length_cons, List.length_nil]; omega
      · rw [List.length_append]; simp only [List.length_cons, List.length_nil]; omega
      · rw [List.length_append]; simp only [List.length_cons, List.length_nil]; omega) ⟨hl, by simp, by simp, by simp, .no, rfl, rfl⟩
  refine ⟨a, ha, ?_⟩
  rw [h1, h2]
  have f3 : ∀ (rs : List Ru) (b : List Int × List Int × List Int), rs.foldl (fun (b : List Int × List Int × List Int) r => (b.1 ++ [r.n1, hi r.n1 r.s1], b.2.1 ++ [r.n2, hi r.n2 r.s2], b.2.2 ++ [r.lo, r.up + 1])) b = (b.1 ++ rs.flatMap (fun r => [r.n1, hi r.n1 r.s1]), b.2.1 ++ rs.flatMap (fun r => [r.n2, hi r.n2 r.s2]), b.2.2 ++ rs.flatMap (fun r => [r.lo, r.up + 1])) := by
    intro rs
    induction rs with
    | nil => intro b; simp
    | cons r rs ih => intro b; rw [List.foldl_cons, ih]; simp [List.flatMap_cons]
  rw [f3]
  rfl
/-- sorted(set([one for one in xs if one < most])) in the law -/
theorem srt_ok {i j : Nat} {E : XF} {most : Int} {xs : List Int} (hx : xs.length ≤ 61) {env e0 : Ev} (h0 : wipeE env [j] = e0) (hv : xVar i env = .ok (.list (xs.map .int), env)) (hb : backE env e0 [j] = env)
    (h : ∀ x ∈ xs, ∃ e1, gN j (.int x) e0 = some e1 ∧ tst (x2 ltD (xVar j) (xConst (.int most))) e1 = .ok (decide (x < most), e1) ∧ E e1 = .ok (.int x, e1) ∧ wipeE e1 [j] = e0) :
    xSortSetI (xComp (iSeq (xVar i)) (gN j) (tst (x2 ltD (xVar j) (xConst (.int most)))) E [j]) env = .ok (.list ((stZ most xs).map .int), env) := by
  have q := below_ok xs most (R := e0) (g := gN j) (ts := tst (x2 ltD (xVar j) (xConst (.int most)))) (el := E) (vs := [j]) fun x hx => let ⟨e1, h1, h2, h3, h4⟩ := h x hx; ⟨e1, h1, h2, fun _ => h3, h4⟩
  have ql : (xs.filter fun x => decide (x < most)).length ≤ 61 := Nat.le_trans (List.length_filter_le _ _) hx
  rw [← h0] at q
  have c := comp_ok (it := iSeq (xVar i)) (vs := [j]) (env := env) (e1 := env) (xs := xs.map .int) (seq_ok hv rfl) (by rw [q]) (by rw [List.length_map]; exact small_ok (by omega))
  rw [h0, hb] at c
  rw [xSortSetI_ap, c]
  simp only [Out.bind_ok, sortSetI_ok (xs := xs.filter fun x => decide (x < most)) (by omega), liftO_some]
  rfl
end K03
set_option Elab.async false
set_option linter.all false
set_option maxRecDepth 100000
namespace K03
open PySem DP
section
variable {R S T : D} {a : Sl} {xs : List Int}
theorem y6_ok (ha : Bk a) (hx : xs.length ≤ 61) (acc : List D) (hl : acc.length ≤ 900000) (s t : Int) : Y6__law_corners [.fz R, .fz S, .fz T, .fz (.list (xs.map .int)), a, .fz (.list acc), .fz (.int s), .fz (.int t), .no] =
    .ok (.nx, [.fz R, .fz S, .fz T, .fz (.list (xs.map .int)), a, .fz (.list (acc ++ (stZ 256 xs).map fun m => tupI [s, t, m])), .fz (.int s), .fz (.int t), .no]) := by
  have z3 : (3 : Nat) ≤ sizeLine := small_ok (by omega)
  have ss := srt_ok (i := 3) (j := 4) (E := E4__law_corners) (most := 256) hx (env := [.fz R, .fz S, .fz T, .fz (.list (xs.map .int)), a, .fz (.list acc), .fz (.int s), .fz (.int t), .no]) (e0 := [.fz R, .fz S, .fz T, .fz (.list (xs.map .int)), .no, .fz (.list acc), .fz (.int s), .fz (.int t), .no]) rfl rfl (congrArg (fun z : Sl => [Sl.fz R, .fz S, .fz T, .fz (.list (xs.map .int)), z, .fz (.list acc), .fz (.int s), .fz (.int t), .no]) ha) fun x _ => ⟨[.fz R, .fz S, .fz T, .fz (.list (xs.map .int)), .fz (.int x), .fz (.list acc), .fz (.int s), .fz (.int t), .no], rfl, by simp, by simp [E4__law_corners], rfl⟩
  have ml : (stZ 256 xs).length ≤ 61 := Nat.le_trans (stZ_len _ _) hx
  generalize stZ 256 xs = M at ss ml ⊢
  have q := cmp_mapT (F := PyData.int) (g := gN 8) (el := E5__law_corners) (vs := [8]) (env := [.fz R, .fz S, .fz T, .fz (.list (xs.map .int)), a, .fz (.list acc), .fz (.int s), .fz (.int t), .no]) (f := fun m => tupI [s, t, m]) M fun m _ => ⟨[.fz R, .fz S, .fz T, .fz (.list (xs.map .int)), a, .fz (.list acc), .fz (.int s), .fz (.int t), .fz (.int m)], rfl, by simp [E5__law_corners, z3], rfl⟩
  have c := comp_ok (it := iSeq (xSortSetI (xComp (iSeq (xVar 3)) (gN 4) (tst (x2 ltD (xVar 4) (xConst (.int 256)))) (E4__law_corners) [4]))) (vs := [8]) (env := [.fz R, .fz S, .fz T, .fz (.list (xs.map .int)), a, .fz (.list acc), .fz (.int s), .fz (.int t), .no]) (e1 := [.fz R, .fz S, .fz T, .fz (.list (xs.map .int)), a, .fz (.list acc), .fz (.int s), .fz (.int t), .no]) (seq_ok ss rfl) q (by rw [List.length_map]; exact small_ok (by omega))
  unfold Y6__law_corners
  rw [sSet_ap, x2_ap, show xVar 5 [.fz R, .fz S, .fz T, .fz (.list (xs.map .int)), a, .fz (.list acc), .fz (.int s), .fz (.int t), .no] = .ok (.list acc, [.fz R, .fz S, .fz T, .fz (.list (xs.map .int)), a, .fz (.list acc), .fz (.int s), .fz (.int t), .no]) from rfl]
  simp only [Out.bind_ok]
  rw [c]
  simp only [Out.bind_ok, add_lists (xs := acc) (ys := M.map fun m => tupI [s, t, m]) (by rw [List.length_map]; omega), liftO_some]
  rfl
variable {ys : List Int}
theorem y7_ok (ha : Bk a) (hx : xs.length ≤ 61) (hy : ys.length ≤ 61) (acc : List D) (hl : acc.length ≤ 800000) (s : Int) (b : Sl) : ∃ b2, Y7__law_corners [.fz R, .fz S, .fz (.list (ys.map .int)), .fz (.list (xs.map .int)), a, .fz (.list acc), .fz (.int s), b, .no] =
    .ok (.nx, [.fz R, .fz S, .fz (.list (ys.map .int)), .fz (.list (xs.map .int)), a, .fz (.list (acc ++ (stZ 65536 ys).flatMap fun t => (stZ 256 xs).map fun m => tupI [s, t, m])), .fz (.int s), b2, .no]) := by
  have ss := srt_ok (i := 2) (j := 4) (E := E3__law_corners) (most := 65536) hy (env := [.fz R, .fz S, .fz (.list (ys.map .int)), .fz (.list (xs.map .int)), a, .fz (.list acc), .fz (.int s), b, .no]) (e0 := [.fz R, .fz S, .fz (.list (ys.map .int)), .fz (.list (xs.map .int)), .no, .fz (.list acc), .fz (.int s), b, .no]) rfl rfl (congrArg (fun z : Sl => [Sl.fz R, .fz S, .fz (.list (ys.map .int)), .fz (.list (xs.map .int)), z, .fz (.list acc), .fz (.int s), b, .no]) ha) fun x _ => ⟨[.fz R, .fz S, .fz (.list (ys.map .int)), .fz (.list (xs.map .int)), .fz (.int x), .fz (.list acc), .fz (.int s), b, .no], rfl, by simp, by simp [E3__law_corners], rfl⟩
  have tl : (stZ 65536 ys).length ≤ 61 := Nat.le_trans (stZ_len _ _) hy
  have ml : (stZ 256 xs).length ≤ 61 := Nat.le_trans (stZ_len _ _) hx
  generalize stZ 65536 ys = T at ss tl ⊢
  obtain ⟨e2, h1, _, b2, h2⟩ := for_fold (F := PyData.int) (g := gN 7) (body := Y6__law_corners) (st := fun (acc : List D) t => acc ++ (stZ 256 xs).map fun m => tupI [s, t, m]) (fun n acc env => acc.length + n * 61 ≤ 900000 ∧ ∃ b, env = [.fz R, .fz S, .fz (.list (ys.map .int)), .fz (.list (xs.map .int)), a, .fz (.list acc), .fz (.int s), b, .no]) T acc [.fz R, .fz S, .fz (.list (ys.map .int)), .fz (.list (xs.map .int)), a, .fz (.list acc), .fz (.int s), b, .no]
    (fun t _ n acc env he => by
      obtain ⟨hn, b, rfl⟩ := he
      rw [Nat.succ_mul] at hn
      refine ⟨_, _, rfl, y6_ok ha hx acc (by omega) s t, ?_, _, rfl⟩
      rw [List.length_append, List.length_map]
      omega) ⟨by have : T.length * 61 ≤ 61 * 61 := Nat.mul_le_mul_right _ tl; omega, _, rfl⟩
  rw [foldl_app] at h2
  refine ⟨b2, ?_⟩
  unfold Y7__law_corners
  rw [for_seq ss rfl, h1, h2]
end
theorem law_corners_ok {rs : List Ru} (h : AllG rs) (hl : rs.length ≤ 30) : F__law_corners [rest rs] = .ok (.list ((trip rs).map dT)) := by
  obtain ⟨a, ha, hg⟩ := gather_ok h hl
  have z1 : (1 : Nat) ≤ sizeLine := small_ok (by omega)
  have z0 : (0 : Nat) ≤ sizeLine := small_ok (by omega)
  unfold trip srcs tgts mrks
  rw [grid_map]
  have hx : (0 :: rs.flatMap fun r => [r.lo, r.up + 1] : List Int).length ≤ 61 := by rw [List.length_cons, two_len]; omega
  have hy : (0 :: rs.flatMap fun r => [r.n2, hi r.n2 r.s2] : List Int).length ≤ 61 := by rw [List.length_cons, two_len]; omega
  have hs : (0 :: rs.flatMap fun r => [r.n1, hi r.n1 r.s1] : List Int).length ≤ 61 := by rw [List.length_cons, two_len]; omega
  generalize (0 :: rs.flatMap fun r => [r.lo, r.up + 1] : List Int) = xs at *
  generalize (0 :: rs.flatMap fun r => [r.n2, hi r.n2 r.s2] : List Int) = ys at *
  generalize (0 :: rs.flatMap fun r => [r.n1, hi r.n1 r.s1] : List Int) = zs at *
  have sq : seqD (rest rs) = some (rs.map dR) := rfl
  generalize rest rs = R at *
  have ss := srt_ok (i := 1) (j := 4) (E := E2__law_corners) (most := 65536) hs (env := [.fz R, .fz (.list (zs.map .int)), .fz (.list (ys.map .int)), .fz (.list (xs.map .int)), a, .fz (.list []), .no, .no, .no]) (e0 := [.fz R, .fz (.list (zs.map .int)), .fz (.list (ys.map .int)), .fz (.list (xs.map .int)), .no, .fz (.list []), .no, .no, .no]) rfl rfl (congrArg (fun z : Sl => [Sl.fz R, .fz (.list (zs.map .int)), .fz (.list (ys.map .int)), .fz (.list (xs.map .int)), z, .fz (.list []), .no, .no, .no]) ha) fun x _ => ⟨[.fz R, .fz (.list (zs.map .int)), .fz (.list (ys.map .int)), .fz (.list (xs.map .int)), .fz (.int x), .fz (.list []), .no, .no, .no], rfl, by simp, by simp [E2__law_corners], rfl⟩
  have sl : (stZ 65536 zs).length ≤ 61 := Nat.le_trans (stZ_len _ _) hs
  have tl : (stZ 65536 ys).length ≤ 61 := Nat.le_trans (stZ_len _ _) hy
  have ml : (stZ 256 xs).length ≤ 61 := Nat.le_trans (stZ_len _ _) hx
  generalize stZ 65536 zs = S at ss sl ⊢
  obtain ⟨e2, h1, _, b1, b2, h2⟩ := for_fold (F := PyData.int) (g := gN 6) (body := Y7__law_corners) (st := fun (acc : List D) s => acc ++ (stZ 65536 ys).flatMap fun t => (stZ 256 xs).map fun m => tupI [s, t, m]) (fun n acc env => acc.length + n * 3721 ≤ 800000 ∧ ∃ b1 b2, env = [.fz R, .fz (.list (zs.map .int)), .fz (.list (ys.map .int)), .fz (.list (xs.map .int)), a, .fz (.list acc), b1, b2, .no]) S [] [.fz R, .fz (.list (zs.map .int)), .fz (.list (ys.map .int)), .fz (.list (xs.map .int)), a, .fz (.list []), .no, .no, .no]
    (fun s _ n acc env he => by
      obtain ⟨hn, b1, b2, rfl⟩ := he
      rw [Nat.succ_mul] at hn
      obtain ⟨b3, h3⟩ := y7_ok (R := R) (S := .list (zs.map .int)) ha hx hy acc (by omega) s b2
      refine ⟨_, _, rfl, h3, ?_, _, _, rfl⟩
      have a2 := flat_len (f := fun t => (stZ 256 xs).map fun m => tupI [s, t, m]) (n := 61) (stZ 65536 ys) fun t _ => by rw [List.length_map]; exact ml
      have a3 : (stZ 65536 ys).length * 61 ≤ 61 * 61 := Nat.mul_le_mul_right _ tl
      rw [List.length_append]
      omega) ⟨by have : S.length * 3721 ≤ 61 * 3721 := Nat.mul_le_mul_right _ sl; simp only [List.length_nil]; omega, _, _, rfl⟩
  rw [foldl_app, List.nil_append] at h2
  subst h2
  generalize (S.flatMap fun s => (stZ 65536 ys).flatMap fun t => (stZ 256 xs).map fun m => tupI [s, t, m]) = res at *
  refine runB_rt (e := [.fz R, .fz (.list (zs.map .int)), .fz (.list (ys.map .int)), .fz (.list (xs.map .int)), a, .fz (.list res), b1, b2, .no]) ?_
  show B__law_corners [.fz R, .no, .no, .no, .no, .no, .no, .no, .no] = _
  unfold B__law_corners
  have s1 : sSet 1 (xLst (aCons (xConst (.int 0)) (aNil))) [.fz R, .no, .no, .no, .no, .no, .no, .no, .no] = .ok (.nx, [.fz R, .fz (.list [.int 0]), .no, .no, .no, .no, .no, .no, .no]) := by simp [z1]
  have s2 : sSet 2 (xLst (aCons (xConst (.int 0)) (aNil))) [.fz R, .fz (.list [.int 0]), .no, .no, .no, .no, .no, .no, .no] = .ok (.nx, [.fz R, .fz (.list [.int 0]), .fz (.list [.int 0]), .no, .no, .no, .no, .no, .no]) := by simp [z1]
  have s3 : sSet 3 (xLst (aCons (xConst (.int 0)) (aNil))) [.fz R, .fz (.list [.int 0]), .fz (.list [.int 0]), .no, .no, .no, .no, .no, .no] = .ok (.nx, [.fz R, .fz (.list [.int 0]), .fz (.list [.int 0]), .fz (.list [.int 0]), .no, .no, .no, .no, .no]) := by simp [z1]
  have s4 : sSet 5 (xLst (aNil)) [.fz R, .fz (.list (zs.map .int)), .fz (.list (ys.map .int)), .fz (.list (xs.map .int)), a, .no, .no, .no, .no] = .ok (.nx, [.fz R, .fz (.list (zs.map .int)), .fz (.list (ys.map .int)), .fz (.list (xs.map .int)), a, .fz (.list []), .no, .no, .no]) := by simp [z0]
  rw [seq_nx s1, seq_nx s2, seq_nx s3, seq_nx ((for_seq (f := xVar 0) (d := R) rfl sq).trans hg), seq_nx s4, seq_nx ((for_seq ss rfl).trans h1)]
  rfl
end K03
set_option Elab.async false
set_option linter.all false
set_option maxRecDepth 100000
namespace K03
open PySem DP
@[simp] theorem ne_boolD (x y : Bool) : neD (.bool x) (.bool y) = some (.bool (x != y)) := by cases x <;> cases y <;> rfl
abbrev P3 := Int × Int × Int
def unl (one two : List Ru) (p : P3) : Bool := passP one p.1 p.2.1 p.2.2 != passP two p.1 p.2.1 p.2.2
def diffP (one two : List Ru) : Option P3 := (trip (one ++ two)).find? (unl one two)
def oD : Option P3 → D
  | none => .none
  | some p => dT p
theorem rest_app (one two : List Ru) : rest (one ++ two) = .list (one.map dR ++ two.map dR) := by unfold rest; rw [List.map_append]
theorem AllG.app {one two : List Ru} (h : AllG one) (k : AllG two) : AllG (one ++ two) := fun r hr => (List.mem_append.mp hr).elim (h r) (k r)
theorem parted_ok {one two : List Ru} (h : AllG one) (k : AllG two) (hl : (one ++ two).length ≤ 30) : F_parted [rest one, rest two] = .ok (oD (diffP one two)) := by
  have l1 : one.length ≤ 30 ∧ two.length ≤ 30 := by rw [List.length_append] at hl; omega
  have ht := triples_ok (h.app k) hl
  have z3 : (3 : Nat) ≤ sizeLine := small_ok (by omega)
  have zz : (one.map dR ++ two.map dR).length ≤ sizeLine := by rw [List.length_append, List.length_map, List.length_map]; exact small_ok (by omega)
  rw [rest_app] at ht
  have a1 := fun s t m => passes_ok h (by omega) s t m
  have a2 := fun s t m => passes_ok k (by omega) s t m
  have e1 : rest one = .list (one.map dR) := rfl
  have e2 : rest two = .list (two.map dR) := rfl
  have it : iSeq (xCall 1 F_triples_of (aCons (xLst (aStar (xVar 0) (aStar (xVar 1) (aNil)))) (aNil))) [.fz (rest one), .fz (rest two), .no, .no, .no] = .ok ((trip (one ++ two)).map dT, [.fz (rest one), .fz (rest two), .no, .no, .no]) := by
    rw [e1, e2]
    generalize one.map dR = X1 at *
    generalize two.map dR = X2 at *
    have zz' : X1.length + X2.length ≤ sizeLine := by rw [← List.length_append]; exact zz
    generalize (trip (one ++ two)).map dT = TT at *
    simp [zz', ht, seqD]
  unfold diffP
  clear e1 e2
  generalize rest one = R1 at *
  generalize rest two = R2 at *
  have fin : ∀ o e2, ((∃ p, o = some p ∧ forL (gT (glCons (gN 2) (glCons (gN 3) (glCons (gN 4) (glNil))))) Y1_parted ((trip (one ++ two)).map dT) [.fz R1, .fz R2, .no, .no, .no] = .ok (.rt (dT p), e2)) ∨ (o = none ∧ forL (gT (glCons (gN 2) (glCons (gN 3) (glCons (gN 4) (glNil))))) Y1_parted ((trip (one ++ two)).map dT) [.fz R1, .fz R2, .no, .no, .no] = .ok (.nx, e2))) → F_parted [R1, R2] = .ok (oD o) := by
    intro o e2 hh
    refine runB_rt (e := e2) ?_
    show B_parted [.fz R1, .fz R2, .no, .no, .no] = _
    unfold B_parted
    rcases hh with ⟨p, rfl, hf⟩ | ⟨rfl, hf⟩
    · rw [seq_rt (d := dT p) (e1 := e2) (by rw [sFor_ap, it]; exact hf)]
      rfl
    · rw [seq_nx (e1 := e2) (by rw [sFor_ap, it]; exact hf)]
      rfl
  rcases for_first (F := dT) (g := gT (glCons (gN 2) (glCons (gN 3) (glCons (gN 4) (glNil))))) (body := Y1_parted) (b := unl one two) (k := dT) (fun env => ∃ a b c, env = [.fz R1, .fz R2, a, b, c]) (trip (one ++ two)) [.fz R1, .fz R2, .no, .no, .no] (fun p _ env he => by
    obtain ⟨a, b, c, rfl⟩ := he
    have b1 := a1 p.1 p.2.1 p.2.2
    have b2 := a2 p.1 p.2.1 p.2.2
    refine ⟨[.fz R1, .fz R2, .fz (.int p.1), .fz (.int p.2.1), .fz (.int p.2.2)], rfl, fun hb => ⟨[.fz R1, .fz R2, .fz (.int p.1), .fz (.int p.2.1), .fz (.int p.2.2)], ?_⟩, fun hb => ⟨[.fz R1, .fz R2, .fz (.int p.1), .fz (.int p.2.1), .fz (.int p.2.2)], ?_, _, _, _, rfl⟩⟩
    · unfold unl at hb
      unfold Y1_parted
      simp [b1, b2, hb, z3]
    · unfold unl at hb
      unfold Y1_parted
      simp [b1, b2, hb]) ⟨_, _, _, rfl⟩ with ⟨p, e2, f1, f2⟩ | ⟨e2, f1, f2, _⟩
  · rw [f1]; exact fin (some p) e2 (.inl ⟨p, rfl, f2⟩)
  · rw [f1]; exact fin none e2 (.inr ⟨rfl, f2⟩)
theorem law_unlike_ok {one two : List Ru} (h : AllG one) (k : AllG two) (hl : (one ++ two).length ≤ 30) : F__law_unlike [rest one, rest two] = .ok (oD (diffP one two)) := by
  have l1 : one.length ≤ 30 ∧ two.length ≤ 30 := by rw [List.length_append] at hl; omega
  have ht := law_corners_ok (h.app k) hl
  have a1 := fun s t m => law_passes_ok h (by omega) s t m
  have a2 := fun s t m => law_passes_ok k (by omega) s t m
  have ad : addD (rest one) (rest two) = some (rest (one ++ two)) := by
    rw [rest_app]
    exact add_lists (by rw [List.length_map, List.length_map]; omega)
  unfold diffP
  have it : iSeq (xCall 1 F__law_corners (aCons (x2 addD (xVar 0) (xVar 1)) (aNil))) [.fz (rest one), .fz (rest two), .no] = .ok ((trip (one ++ two)).map dT, [.fz (rest one), .fz (rest two), .no]) := by
    generalize (trip (one ++ two)).map dT = TT at *
    generalize rest (one ++ two) = R3 at *
    generalize rest one = R1 at *
    generalize rest two = R2 at *
    simp [ad, ht, seqD]
  generalize rest one = R1 at *
  generalize rest two = R2 at *
  have fin : ∀ o e2, ((∃ p, o = some p ∧ forL (gN 2) Y1__law_unlike ((trip (one ++ two)).map dT) [.fz R1, .fz R2, .no] = .ok (.rt (dT p), e2)) ∨ (o = none ∧ forL (gN 2) Y1__law_unlike ((trip (one ++ two)).map dT) [.fz R1, .fz R2, .no] = .ok (.nx, e2))) → F__law_unlike [R1, R2] = .ok (oD o) := by
    intro o e2 hh
    refine runB_rt (e := e2) ?_
    show B__law_unlike [.fz R1, .fz R2, .no] = _
    unfold B__law_unlike
    rcases hh with ⟨p, rfl, hf⟩ | ⟨rfl, hf⟩
    · rw [seq_rt (d := dT p) (e1 := e2) (by rw [sFor_ap, it]; exact hf)]
      rfl
    · rw [seq_nx (e1 := e2) (by rw [sFor_ap, it]; exact hf)]
      rfl
  rcases for_first (F := dT) (g := gN 2) (body := Y1__law_unlike) (b := unl one two) (k := dT) (fun env => ∃ a, env = [.fz R1, .fz R2, a]) (trip (one ++ two)) [.fz R1, .fz R2, .no] (fun p _ env he => by
    obtain ⟨a, rfl⟩ := he
    have b1 := a1 p.1 p.2.1 p.2.2
    have b2 := a2 p.1 p.2.1 p.2.2
    have i0 : ixD (dT p) (.int 0) = some (.int p.1) := rfl
    have i1 : ixD (dT p) (.int 1) = some (.int p.2.1) := rfl
    have i2 : ixD (dT p) (.int 2) = some (.int p.2.2) := rfl
    generalize dT p = Q at *
    refine ⟨[.fz R1, .fz R2, .fz Q], rfl, fun hb => ⟨[.fz R1, .fz R2, .fz Q], ?_⟩, fun hb => ⟨[.fz R1, .fz R2, .fz Q], ?_, _, rfl⟩⟩
    · unfold unl at hb
      unfold Y1__law_unlike
      simp [b1, b2, hb, i0, i1, i2]
    · unfold unl at hb
      unfold Y1__law_unlike
      simp [b1, b2, hb, i0, i1, i2]) ⟨_, rfl⟩ with ⟨p, e2, f1, f2⟩ | ⟨e2, f1, f2, _⟩
  · rw [f1]; exact fin (some p) e2 (.inl ⟨p, rfl, f2⟩)
  · rw [f1]; exact fin none e2 (.inr ⟨rfl, f2⟩)
theorem unlike_ok {one two : List Ru} (h : AllG one) (k : AllG two) (hl : (one ++ two).length ≤ 20) : F_unlike [rest one, rest two] = .ok (oD (diffP one two)) := by
  have l1 : one.length ≤ 20 ∧ two.length ≤ 20 := by rw [List.length_append] at hl; omega
  have c1 := check_ok h l1.1
  have c2 := check_ok k l1.2
  have p := parted_ok h k (by omega)
  generalize oD (diffP one two) = O at *
  generalize rest one = R1 at *
  generalize rest two = R2 at *
  unfold F_unlike runB B_unlike
  simp [c1, c2, p]
end K03
set_option Elab.async false
set_option linter.all false
set_option maxRecDepth 100000
namespace K03
open PySem DP
/-! ### the corners tell all -/
theorem top_of : ∀ (xs : List Int) (s : Int), (∃ x ∈ xs, x ≤ s) → ∃ c ∈ xs, c ≤ s ∧ ∀ x ∈ xs, x ≤ s → x ≤ c
  | [], _, h => by obtain ⟨_, h, _⟩ := h; cases h
  | a :: xs, s, h => by
    by_cases hx : ∃ x ∈ xs, x ≤ s
    · obtain ⟨c, h1, h2, h3⟩ := top_of xs s hx
      by_cases ha : a ≤ s ∧ c ≤ a
      · exact ⟨a, List.mem_cons_self, ha.1, fun x hx' hs => (List.mem_cons.mp hx').elim (fun e => by omega) fun e => Int.le_trans (h3 x e hs) ha.2⟩
      · exact ⟨c, List.mem_cons_of_mem _ h1, h2, fun x hx' hs => (List.mem_cons.mp hx').elim (fun e => by omega) fun e => h3 x e hs⟩
    · obtain ⟨x, hm, hs⟩ := h
      rcases List.mem_cons.mp hm with rfl | e
      · exact ⟨x, List.mem_cons_self, hs, fun y hy hys => (List.mem_cons.mp hy).elim (fun e => by omega) fun e => absurd ⟨y, e, hys⟩ hx⟩
      · exact absurd ⟨x, e, hs⟩ hx
theorem round_of {xs : List Int} {most s : Int} (h0 : (0 : Int) ∈ xs) (h1 : 0 ≤ s) (h2 : s < most) : ∃ c ∈ stZ most xs, ∀ x ∈ xs, (x ≤ s ↔ x ≤ c) := by
  obtain ⟨c, hc, hs, ht⟩ := top_of xs s ⟨0, h0, h1⟩
  exact ⟨c, mem_setZ.mpr (List.mem_filter.mpr ⟨hc, by simp; omega⟩), fun x hx => ⟨ht x hx, fun h => Int.le_trans h hs⟩⟩
def In (p : P3) : Prop := 0 ≤ p.1 ∧ p.1 < 65536 ∧ 0 ≤ p.2.1 ∧ p.2.1 < 65536 ∧ 0 ≤ p.2.2 ∧ p.2.2 < 256
theorem mem_grid {S T M : List Int} {p : P3} : p ∈ grid S T M ↔ p.1 ∈ S ∧ p.2.1 ∈ T ∧ p.2.2 ∈ M := by
  unfold grid
  simp only [List.mem_flatMap, List.mem_map]
  constructor
  · rintro ⟨s, hs, t, ht, m, hm, rfl⟩
    exact ⟨hs, ht, hm⟩
  · rintro ⟨h1, h2, h3⟩
    exact ⟨p.1, h1, p.2.1, h2, p.2.2, h3, rfl⟩
theorem stZ_in {most : Int} {xs : List Int} (h : ∀ x ∈ xs, 0 ≤ x) {c : Int} (hc : c ∈ stZ most xs) : 0 ≤ c ∧ c < most := by
  have := List.mem_filter.mp (mem_setZ.mp hc)
  exact ⟨h c this.1, by simpa using this.2⟩
theorem trip_in {rs : List Ru} (h : AllG rs) {p : P3} (hp : p ∈ trip rs) : In p := by
  obtain ⟨h1, h2, h3⟩ := mem_grid.mp hp
  have a1 := stZ_in (fun x hx => by
    rcases List.mem_cons.mp hx with rfl | hx
    · exact Int.le_refl _
    · obtain ⟨r, hr, hx⟩ := List.mem_flatMap.mp hx
      have := (h r hr).p1.2.2.1
      have := (h r hr).p1.lt
      simp at hx
      omega) h1
  have a2 := stZ_in (fun x hx => by
    rcases List.mem_cons.mp hx with rfl | hx
    · exact Int.le_refl _
    · obtain ⟨r, hr, hx⟩ := List.mem_flatMap.mp hx
      have := (h r hr).p2.2.2.1
      have := (h r hr).p2.lt
      simp at hx
      omega) h2
  have a3 := stZ_in (fun x hx => by
    rcases List.mem_cons.mp hx with rfl | hx
    · exact Int.le_refl _
    · obtain ⟨r, hr, hx⟩ := List.mem_flatMap.mp hx
      have := (h r hr).m0
      have := (h r hr).m1
      simp at hx
      omega) h3
  exact ⟨a1.1, a1.2, a2.1, a2.2, a3.1, a3.2⟩
theorem fits_round {r : Ru} {s t m s' t' m' : Int} (h1 : r.n1 ≤ s ↔ r.n1 ≤ s') (h2 : hi r.n1 r.s1 ≤ s ↔ hi r.n1 r.s1 ≤ s') (h3 : r.n2 ≤ t ↔ r.n2 ≤ t') (h4 : hi r.n2 r.s2 ≤ t ↔ hi r.n2 r.s2 ≤ t') (h5 : r.lo ≤ m ↔ r.lo ≤ m') (h6 : r.up + 1 ≤ m ↔ r.up + 1 ≤ m') : fits r s t m = fits r s' t' m' := by
  have e2 : (s < hi r.n1 r.s1) ↔ (s' < hi r.n1 r.s1) := by omega
  have e4 : (t < hi r.n2 r.s2) ↔ (t' < hi r.n2 r.s2) := by omega
  have e6 : (m ≤ r.up) ↔ (m' ≤ r.up) := by omega
  unfold fits
  simp only [h1, h3, h5, e2, e4, e6]
theorem two_mem {f g : Ru → Int} {rs : List Ru} {r : Ru} (h : r ∈ rs) : f r ∈ (0 :: rs.flatMap fun r => [f r, g r]) ∧ g r ∈ (0 :: rs.flatMap fun r => [f r, g r]) :=
  ⟨List.mem_cons_of_mem _ (List.mem_flatMap.mpr ⟨r, h, by simp⟩), List.mem_cons_of_mem _ (List.mem_flatMap.mpr ⟨r, h, by simp⟩)⟩
theorem round_p (rs : List Ru) {p : P3} (hp : In p) : ∃ q ∈ trip rs, ∀ r ∈ rs, fits r p.1 p.2.1 p.2.2 = fits r q.1 q.2.1 q.2.2 := by
  obtain ⟨i1, i2, i3, i4, i5, i6⟩ := hp
  obtain ⟨c1, m1, e1⟩ := round_of (xs := 0 :: rs.flatMap fun r => [r.n1, hi r.n1 r.s1]) List.mem_cons_self i1 i2
  obtain ⟨c2, m2, e2⟩ := round_of (xs := 0 :: rs.flatMap fun r => [r.n2, hi r.n2 r.s2]) List.mem_cons_self i3 i4
  obtain ⟨c3, m3, e3⟩ := round_of (xs := 0 :: rs.flatMap fun r => [r.lo, r.up + 1]) List.mem_cons_self i5 i6
  refine ⟨(c1, c2, c3), mem_grid.mpr ⟨m1, m2, m3⟩, fun r hr => ?_⟩
  have a1 := two_mem (f := fun r => r.n1) (g := fun r => hi r.n1 r.s1) hr
  have a2 := two_mem (f := fun r => r.n2) (g := fun r => hi r.n2 r.s2) hr
  have a3 := two_mem (f := fun r => r.lo) (g := fun r => r.up + 1) hr
  exact fits_round (e1 _ a1.1) (e1 _ a1.2) (e2 _ a2.1) (e2 _ a2.2) (e3 _ a3.1) (e3 _ a3.2)
theorem passP_congr {rs : List Ru} {p q : P3} (h : ∀ r ∈ rs, fits r p.1 p.2.1 p.2.2 = fits r q.1 q.2.1 q.2.2) : passP rs p.1 p.2.1 p.2.2 = passP rs q.1 q.2.1 q.2.2 := by
  unfold passP
  rw [List.filter_congr h]
/-- alike at all addresses and marks -/
def Alike (one two : List Ru) : Prop := ∀ p, In p → passP one p.1 p.2.1 p.2.2 = passP two p.1 p.2.1 p.2.2
theorem alike_of {one two : List Ru} (h : diffP one two = none) : Alike one two := fun p hp => by
  obtain ⟨q, hq, e⟩ := round_p (one ++ two) hp
  rw [passP_congr (rs := one) fun r hr => e r (List.mem_append_left _ hr), passP_congr (rs := two) fun r hr => e r (List.mem_append_right _ hr)]
  have := List.find?_eq_none.mp h q hq
  unfold unl at this
  simpa using this
theorem none_of {one two : List Ru} (h : AllG one) (k : AllG two) (a : Alike one two) : diffP one two = none := List.find?_eq_none.mpr fun p hp => by
  unfold unl
  rw [a p (trip_in (h.app k) hp)]
  simp
def dropAt (rs : List Ru) (k : Nat) : List Ru := rs.take k ++ rs.drop (k + 1)
theorem AllG.drop {rs : List Ru} (h : AllG rs) (k : Nat) : AllG (dropAt rs k) := fun r hr => (List.mem_append.mp hr).elim (fun m => h r (List.mem_of_mem_take m)) fun m => h r (List.mem_of_mem_drop m)
theorem drop_len (rs : List Ru) (k : Nat) : (dropAt rs k).length ≤ rs.length := by
  unfold dropAt
  rw [List.length_append, List.length_take, List.length_drop]
  omega
def fewStep (fd : List Ru) (k : Nat) : List Ru := if (diffP fd (dropAt fd k)).isNone then dropAt fd k else fd
/-- the rules behind going through from the last one on -/
def fewP (rs : List Ru) : List Ru := (List.range rs.length).foldl (fun fd i => fewStep fd (rs.length - 1 - i)) rs
theorem few_inv (f : Nat → Nat) : ∀ (L : List Nat) (rs fd : List Ru), AllG fd → fd.length ≤ rs.length → Alike rs fd → AllG (L.foldl (fun fd i => fewStep fd (f i)) fd) ∧ (L.foldl (fun fd i => fewStep fd (f i)) fd).length ≤ rs.length ∧ Alike rs (L.foldl (fun fd i => fewStep fd (f i)) fd)
  | [], _, _, h, hl, a => ⟨h, hl, a⟩
  | i :: L, rs, fd, h, hl, a => by
    rw [List.foldl_cons]
    refine few_inv f L rs (fewStep fd (f i)) ?_ ?_ ?_
    · unfold fewStep; split
      · exact h.drop _
      · exact h
    · unfold fewStep; split
      · exact Nat.le_trans (drop_len _ _) hl
      · exact hl
    · unfold fewStep; split
      · rename_i e
        exact fun p hp => (a p hp).trans (alike_of (Option.isNone_iff_eq_none.mp e) p hp)
      · exact a
theorem fewP_ok {rs : List Ru} (h : AllG rs) : AllG (fewP rs) ∧ (fewP rs).length ≤ rs.length ∧ diffP rs (fewP rs) = none := by
  obtain ⟨a, b, c⟩ := few_inv (fun i => rs.length - 1 - i) (List.range rs.length) rs rs h (Nat.le_refl _) fun _ _ => rfl
  exact ⟨a, b, none_of h a c⟩
end K03
set_option Elab.async false
set_option linter.all false
set_option maxRecDepth 100000
namespace K03
open PySem DP
theorem cut_take {α : Type} (ds : List α) (k : Nat) : cutL ds none (some (k : Int)) = ds.take k := by
  unfold cutL
  rw [HT.sIx_none, show HT.sIx ds.length ds.length (some (k : Int)) = min k ds.length from HT.sIx_nat _ _ k, List.drop_zero, Nat.sub_zero, ← List.take_eq_take_min]
theorem cut_drop {α : Type} (ds : List α) (k : Nat) : cutL ds (some (k : Int)) none = ds.drop k := by
  unfold cutL
  rw [HT.sIx_none, show HT.sIx ds.length 0 (some (k : Int)) = min k ds.length from HT.sIx_nat _ _ k]
  by_cases h : k ≤ ds.length
  · rw [Nat.min_eq_left h, List.take_of_length_le (by rw [List.length_drop]; omega)]
  · rw [Nat.min_eq_right (by omega), List.drop_eq_nil_of_le (Nat.le_refl _), List.drop_eq_nil_of_le (by omega)]
    simp
theorem sl_take (ds : List D) (k : Nat) : slD (.list ds) none (some (k : Int)) = some (.list (ds.take k)) := by
  unfold slD
  simp only [cut_take]
theorem sl_drop (ds : List D) (k : Nat) : slD (.list ds) (some (k : Int)) none = some (.list (ds.drop k)) := by
  unfold slD
  simp only [cut_drop]
theorem rng_nat (n : Nat) : rngD 0 1 n = (List.range n).map fun (i : Nat) => PyData.int (i : Int) := by
  unfold rngD
  congr 1
  funext i
  congr 1
  omega
theorem rng1_nat {n : Nat} (h : n ≤ 1000000) : rng1 [.int (n : Int)] = some ((List.range n).map fun (i : Nat) => PyData.int (i : Int)) := by
  rw [rng1_ok (by omega) (by omega), Int.toNat_natCast, rng_nat]
/-- range(n - 1, -1, -1) -/
theorem rng3_down {n : Nat} (h : n ≤ 1000000) : rng3 [.int ((n : Int) - 1), .int (-1), .int (-1)] = some ((List.range n).map fun (i : Nat) => PyData.int ((n - 1 - i : Nat) : Int)) := by
  have hsz : Builtin.Range.rangeSize ((n : Int) - 1) (-1) (-1) = n := by
    unfold Builtin.Range.rangeSize
    rw [if_neg (by decide)]
    split
    · rw [show (-(-1) : Int) = 1 from rfl, Int.ediv_one]
      omega
    · omega
  have hn : rngN ((n : Int) - 1) (-1) (-1) = n := by
    unfold rngN
    rw [hsz]
    rfl
  have hs : Builtin.Range.small ((n : Int) - 1) (-1) (-1) = true := by
    unfold Builtin.Range.small
    rw [hsz]
    simp [Builtin.Range.rangeFitsLong]
    omega
  unfold rng3
  simp only
  rw [if_pos ⟨by decide, by decide, hs⟩, hn]
  unfold rngD
  congr 1
  refine List.map_congr_left fun i hi => ?_
  have := List.mem_range.mp hi
  congr 1
  omega
/-- rules[:k] + rules[k + 1:] -/
theorem del_ok {i j : Nat} {rs : List Ru} (hl : rs.length ≤ 1000) (k : Nat) {env : Ev} (h1 : xVar i env = .ok (rest rs, env)) (h2 : xVar j env = .ok (.int (k : Int), env)) : x2 addD (xSl (xVar i) (pNo) (pAt (xVar j))) (xSl (xVar i) (pAt (x2 addD (xVar j) (xConst (.int 1)))) (pNo)) env = .ok (rest (dropAt rs k), env) := by
  have a1 : slD (rest rs) none (some (k : Int)) = some (.list ((rs.map dR).take k)) := sl_take _ _
  have a2 : slD (rest rs) (some ((k : Int) + 1)) none = some (.list ((rs.map dR).drop (k + 1))) := sl_drop (rs.map dR) (k + 1)
  have a3 : addD (.list ((rs.map dR).take k)) (.list ((rs.map dR).drop (k + 1))) = some (rest (dropAt rs k)) := by
    rw [add_lists (by rw [List.length_take, List.length_drop, List.length_map]; omega)]
    unfold rest dropAt
    rw [List.map_append, List.map_take, List.map_drop]
  generalize rest (dropAt rs k) = R2 at *
  generalize rest rs = R at *
  generalize (PyData.list ((rs.map dR).take k)) = T1 at *
  generalize (PyData.list ((rs.map dR).drop (k + 1))) = T2 at *
  simp only [x2_ap, xSl_ap, pNo_ap, pAt_ap, h1, h2, Out.bind_ok, asI_int, xConst_ap, add_int, liftO_some, a1, a2, a3]
theorem isN_oD (o : Option P3) : isN (oD o) = some (.bool o.isNone) := by cases o <;> rfl
theorem dl {rs : List Ru} {k n : Nat} (h : rs.length ≤ n) : (rs ++ dropAt rs k).length ≤ 2 * n := by
  have := drop_len rs k
  rw [List.length_append]
  omega
def needP (rs : List Ru) : List Nat := (List.range rs.length).filter fun k => (diffP rs (dropAt rs k)).isNone
abbrev nD (k : Nat) : D := .int (k : Int)
theorem needless_ok {rs : List Ru} (h : AllG rs) (hl : rs.length ≤ 10) : F_needless [rest rs] = .ok (.list ((needP rs).map nD)) := by
  have hc := check_ok h (by omega)
  have q := cmp_map (F := nD) (g := gN 1) (ts := tst (x1 isN (xCall 2 F_parted (aCons (xVar 0) (aCons (x2 addD (xSl (xVar 0) (pNo) (pAt (xVar 1))) (xSl (xVar 0) (pAt (x2 addD (xVar 1) (xConst (.int 1)))) (pNo))) (aNil)))))) (el := E1_needless) (vs := [1]) (env := [.fz (rest rs), .no])
    (b := fun k => (diffP rs (dropAt rs k)).isNone) (f := nD) (List.range rs.length) fun k hk => by
      have d := del_ok (i := 0) (j := 1) (rs := rs) (by omega) k (env := [.fz (rest rs), .fz (nD k)]) rfl rfl
      have p := parted_ok h (h.drop k) (Nat.le_trans (dl hl) (by omega))
      have e := isN_oD (diffP rs (dropAt rs k))
      refine ⟨[.fz (rest rs), .fz (nD k)], rfl, ?_, fun _ => rfl, rfl⟩
      generalize oD (diffP rs (dropAt rs k)) = O at *
      generalize rest (dropAt rs k) = R2 at *
      generalize rest rs = R at *
      simp only [tst_ap, x1_ap, xCall_ap, aCons_ap, xVar_ap (show ([.fz R, .fz (nD k)] : Ev)[0]? = some (.fz R) from rfl), Out.bind_ok, d, aNil_ap, List.length_cons, List.length_nil, if_true, p, e, liftO_some, asB_bool]
  have ln : ((needP rs).map nD).length ≤ sizeLine := by
    rw [List.length_map]
    refine small_ok (Nat.le_trans (List.length_filter_le _ _) ?_)
    rw [List.length_range]; omega
  have c := comp_ok (it := iArgs rng1 (aCons (xn lenD (aCons (xVar 0) (aNil))) (aNil))) (vs := [1]) (env := [.fz (rest rs), .no]) (e1 := [.fz (rest rs), .no]) (args_ok (ds := [.int rs.length]) (e1 := [.fz (rest rs), .no]) (by simp [rest]) (rng1_nat (by omega))) q ln
  refine runB_rt (e := [.fz (rest rs), .no]) ?_
  show B_needless [.fz (rest rs), .no] = _
  unfold B_needless
  have s1 : sDrop (xCall 1 F_check_rules (aCons (xVar 0) (aNil))) [.fz (rest rs), .no] = .ok (.nx, [.fz (rest rs), .no]) := by
    generalize rest rs = R at *
    simp [hc]
  rw [seq_nx s1, sRet_ap, c]
  rfl
theorem fewer_ok {rs : List Ru} (h : AllG rs) (hl : rs.length ≤ 10) : F_fewer [rest rs] = .ok (rest (fewP rs)) := by
  have hc := check_ok h (by omega)
  have ll : listD [rest rs] = some (rest rs) := rfl
  obtain ⟨e2, h1, _, _, a, b, h2⟩ := for_fold (F := fun i => nD (rs.length - 1 - i)) (g := gN 2) (body := Y1_fewer) (st := fun fd i => fewStep fd (rs.length - 1 - i)) (fun n fd env => AllG fd ∧ fd.length ≤ 10 ∧ ∃ a b, env = [.fz (rest rs), .fz (rest fd), a, b]) (List.range rs.length) rs [.fz (rest rs), .fz (rest rs), .no, .no] (fun i hi n fd env he => by
    obtain ⟨hG, hf, a, b, rfl⟩ := he
    generalize rs.length - 1 - i = k
    have d := del_ok (i := 1) (j := 2) (rs := fd) (by omega) k (env := [.fz (rest rs), .fz (rest fd), .fz (nD k), b]) rfl rfl
    have p := parted_ok hG (hG.drop k) (Nat.le_trans (dl hf) (by omega))
    have e := isN_oD (diffP fd (dropAt fd k))
    refine ⟨[.fz (rest rs), .fz (rest fd), .fz (nD k), b], [.fz (rest rs), .fz (rest (fewStep fd k)), .fz (nD k), .fz (rest (dropAt fd k))], rfl, ?_, ?_, ?_, _, _, rfl⟩
    · unfold Y1_fewer
      have s1 : sSet 3 (x2 addD (xSl (xVar 1) (pNo) (pAt (xVar 2))) (xSl (xVar 1) (pAt (x2 addD (xVar 2) (xConst (.int 1)))) (pNo))) [.fz (rest rs), .fz (rest fd), .fz (nD k), b] = .ok (.nx, [.fz (rest rs), .fz (rest fd), .fz (nD k), .fz (rest (dropAt fd k))]) := by rw [sSet_ap, d]; rfl
      rw [seq_nx s1]
      generalize oD (diffP fd (dropAt fd k)) = O at *
      cases hb : (diffP fd (dropAt fd k)).isNone with
      | true =>
        rw [hb] at e
        rw [show fewStep fd k = dropAt fd k by unfold fewStep; rw [hb]; rfl]
        generalize rest (dropAt fd k) = R2 at *
        generalize rest fd = R1 at *
        generalize rest rs = R at *
        simp [p, e]
      | false =>
        rw [hb] at e
        rw [show fewStep fd k = fd by unfold fewStep; rw [hb]; rfl]
        generalize rest (dropAt fd k) = R2 at *
        generalize rest fd = R1 at *
        generalize rest rs = R at *
        simp [p, e]
    · unfold fewStep; split
      · exact hG.drop k
      · exact hG
    · unfold fewStep; split
      · exact Nat.le_trans (drop_len _ _) hf
      · exact hf) ⟨h, hl, _, _, rfl⟩
  have hr : rng3 [.int ((rs.length : Int) - 1), .int (-1), .int (-1)] = some ((List.range rs.length).map fun i => nD (rs.length - 1 - i)) := rng3_down (by omega)
  have e3 : lenD [rest rs] = some (.int rs.length) := by simp [rest]
  have e2' : e2 = [.fz (rest rs), .fz (rest (fewP rs)), a, b] := h2
  subst e2'
  clear h2
  refine runB_rt (e := [.fz (rest rs), .fz (rest (fewP rs)), a, b]) ?_
  show B_fewer [.fz (rest rs), .no, .no, .no] = _
  unfold B_fewer
  have ar : (aCons (x2 subD (xn lenD (aCons (xVar 0) (aNil))) (xConst (.int 1))) (aCons (x1 negD (xConst (.int 1))) (aCons (x1 negD (xConst (.int 1))) (aNil)))) [.fz (rest rs), .fz (rest rs), .no, .no] = .ok ([.int ((rs.length : Int) - 1), .int (-1), .int (-1)], [.fz (rest rs), .fz (rest rs), .no, .no]) := by
    generalize rest rs = R at *
    simp [e3]
  have s1 : sDrop (xCall 1 F_check_rules (aCons (xVar 0) (aNil))) [.fz (rest rs), .no, .no, .no] = .ok (.nx, [.fz (rest rs), .no, .no, .no]) := by
    generalize rest rs = R at *
    simp [hc]
  have s2 : sSet 1 (xn listD (aCons (xVar 0) (aNil))) [.fz (rest rs), .no, .no, .no] = .ok (.nx, [.fz (rest rs), .fz (rest rs), .no, .no]) := by
    generalize rest rs = R at *
    simp [ll]
  rw [seq_nx s1, seq_nx s2, seq_nx ((for_args ar hr).trans h1)]
  rfl
end K03
set_option Elab.async false
set_option linter.all false
set_option maxRecDepth 100000
namespace K03
open PySem DP
theorem eqv_kD (o : Option Nat) (k : Nat) : (kD o).eqv (nD k) = decide (o = some k) := by
  cases o with
  | none => simp [kD, PyData.eqv]
  | some j =>
    simp only [kD, PyData.eqv, Option.some.injEq]
    rw [Bool.eq_iff_iff, beq_iff_eq, decide_eq_true_eq]
    omega
theorem kD_flat (o : Option Nat) : (kD o).plain = true ∧ (kD o).depth = 0 := by cases o <;> exact ⟨rfl, rfl⟩
theorem nin_flat {k : Nat} {ds : List D} (h : ∀ d ∈ ds, d.plain = true ∧ d.depth = 0) : ninD (nD k) (.list ds) = some (.bool (!ds.any fun d => d.eqv (nD k))) := by
  have p : PyData.plainAll ds = true := by
    induction ds with
    | nil => rfl
    | cons d ds ih => rw [PyData.plainAll, (h d List.mem_cons_self).1, ih fun x hx => h x (List.mem_cons_of_mem _ hx)]; rfl
  have d : PyData.depthAll ds ≤ 0 := depthAll_le fun x hx => Nat.le_of_eq (h x hx).2
  have c : inOk (nD k) (.list ds) = true := by
    show (PyData.plainAll ds && (nD k).plain && decide (min (PyData.depthAll ds) (nD k).depth ≤ 60)) = true
    rw [p, show (nD k).plain = true from rfl, decide_eq_true (show min (PyData.depthAll ds) (nD k).depth ≤ 60 by omega)]
    rfl
  unfold ninD
  rw [if_pos c]
  rfl
def hitP (rs : List Ru) (k : Nat) : Bool := (trip rs).any fun p => decide (firstP rs p.1 p.2.1 p.2.2 = some k)
def neverP (rs : List Ru) : List Nat := (List.range rs.length).filter fun k => !hitP rs k
theorem never_ok {rs : List Ru} (h : AllG rs) (hl : rs.length ≤ 10) : F_never_fits [rest rs] = .ok (.list ((neverP rs).map nD)) := by
  have hc := check_ok h (by omega)
  have ht := triples_ok h (by omega)
  have hk := trip_len (rs := rs) (by omega)
  have ln : ((neverP rs).map nD).length ≤ sizeLine := by
    rw [List.length_map]
    refine small_ok (Nat.le_trans (List.length_filter_le _ _) ?_)
    rw [List.length_range]; omega
  have fs := fun s t m => first_fit_ok h (by omega) s t m
  have e3 : lenD [rest rs] = some (.int rs.length) := by simp [rest]
  generalize rest rs = R at *
  obtain ⟨TD, hTD⟩ : ∃ TD, TD = (trip rs).map fun p => kD (firstP rs p.1 p.2.1 p.2.2) := ⟨_, rfl⟩
  have q1 := cmp_mapT (F := dT) (g := gT (glCons (gN 3) (glCons (gN 4) (glCons (gN 5) (glNil))))) (el := E1_never_fits) (vs := [3, 4, 5]) (env := [.fz R, .no, .no, .no, .no, .no]) (f := fun p => kD (firstP rs p.1 p.2.1 p.2.2)) (trip rs) fun p _ => by
    have := fs p.1 p.2.1 p.2.2
    refine ⟨[.fz R, .no, .no, .fz (.int p.1), .fz (.int p.2.1), .fz (.int p.2.2)], rfl, ?_, rfl⟩
    simp [E1_never_fits, this]
  rw [← hTD] at q1
  have tl : TD.length ≤ sizeLine := by rw [hTD, List.length_map]; exact small_ok (by omega)
  have c1 := comp_ok (it := iSeq (xCall 1 F_triples_of (aCons (xVar 0) (aNil)))) (vs := [3, 4, 5]) (env := [.fz R, .no, .no, .no, .no, .no]) (e1 := [.fz R, .no, .no, .no, .no, .no]) (seq_ok (d := .list ((trip rs).map dT)) (by simp [ht]) rfl) q1 tl
  have fl : ∀ d ∈ TD, d.plain = true ∧ d.depth = 0 := fun d hd => by
    rw [hTD] at hd
    obtain ⟨p, _, rfl⟩ := List.mem_map.mp hd
    exact kD_flat _
  have any_ : ∀ k, (TD.any fun d => d.eqv (nD k)) = hitP rs k := fun k => by
    rw [hTD, List.any_map]
    unfold hitP
    congr 1
    funext p
    exact eqv_kD _ _
  have q2 := cmp_map (F := nD) (g := gN 2) (ts := tst (x2 ninD (xVar 2) (xVar 1))) (el := E2_never_fits) (vs := [2]) (env := [.fz R, .fz (.list TD), .no, .no, .no, .no]) (b := fun k => !hitP rs k) (f := nD) (List.range rs.length) fun k _ => by
    have nn := nin_flat (k := k) fl
    rw [any_ k] at nn
    refine ⟨[.fz R, .fz (.list TD), .fz (nD k), .no, .no, .no], rfl, ?_, fun _ => rfl, rfl⟩
    generalize PyData.list TD = T at *
    generalize nD k = K at *
    simp [nn]
  have c2 := comp_ok (it := iArgs rng1 (aCons (xn lenD (aCons (xVar 0) (aNil))) (aNil))) (vs := [2]) (env := [.fz R, .fz (.list TD), .no, .no, .no, .no]) (e1 := [.fz R, .fz (.list TD), .no, .no, .no, .no]) (args_ok (ds := [.int rs.length]) (e1 := [.fz R, .fz (.list TD), .no, .no, .no, .no]) (by simp [e3]) (rng1_nat (by omega))) q2 ln
  refine runB_rt (e := [.fz R, .fz (.list TD), .no, .no, .no, .no]) ?_
  show B_never_fits [.fz R, .no, .no, .no, .no, .no] = _
  unfold B_never_fits
  have s1 : sDrop (xCall 1 F_check_rules (aCons (xVar 0) (aNil))) [.fz R, .no, .no, .no, .no, .no] = .ok (.nx, [.fz R, .no, .no, .no, .no, .no]) := by simp [hc]
  have s2 : sSet 1 (xComp (iSeq (xCall 1 F_triples_of (aCons (xVar 0) (aNil)))) (gT (glCons (gN 3) (glCons (gN 4) (glCons (gN 5) (glNil))))) (tTrue) (E1_never_fits) [3, 4, 5]) [.fz R, .no, .no, .no, .no, .no] = .ok (.nx, [.fz R, .fz (.list TD), .no, .no, .no, .no]) := by rw [sSet_ap, c1]; rfl
  rw [seq_nx s1, seq_nx s2, sRet_ap, c2]
  rfl
/-- what the law gathers: the first one at each corner -/
def firsts (rs : List Ru) : List Nat := (trip rs).flatMap fun p => (firstP rs p.1 p.2.1 p.2.2).toList
theorem mem_firsts {rs : List Ru} {k : Nat} : k ∈ firsts rs ↔ hitP rs k = true := by
  unfold firsts hitP
  simp only [List.mem_flatMap, List.any_eq_true, decide_eq_true_eq, Option.mem_toList]
theorem nin_firsts (rs : List Ru) (k : Nat) : ninD (nD k) (.list ((firsts rs).map nD)) = some (.bool (!hitP rs k)) := by
  rw [nin_flat fun d hd => by obtain ⟨j, _, rfl⟩ := List.mem_map.mp hd; exact ⟨rfl, rfl⟩]
  have : ((firsts rs).map nD).any (fun d => d.eqv (nD k)) = hitP rs k := by
    rw [List.any_map, Bool.eq_iff_iff, ← mem_firsts, List.any_eq_true]
    constructor
    · rintro ⟨j, hj, e⟩
      have z : (j : Int) = k := by simpa [PyData.eqv] using e
      have z : j = k := by omega
      exact z ▸ hj
    · intro hk
      exact ⟨k, hk, by simp [PyData.eqv]⟩
  rw [this]
end K03
set_option Elab.async false
set_option linter.all false
set_option maxRecDepth 100000
namespace K03
open PySem DP
theorem lens {v : Int} (h : 0 ≤ v ∧ v < 6) : ∃ s, L2.atI [PyData.int 0, .int 1, .int 2, .int 15, .int 16, .int 14] v = some (.int s) ∧ 0 ≤ s ∧ s ≤ 16 := by
  have : v = 0 ∨ v = 1 ∨ v = 2 ∨ v = 3 ∨ v = 4 ∨ v = 5 := by omega
  rcases this with rfl | rfl | rfl | rfl | rfl | rfl
  · exact ⟨0, rfl, by decide, by decide⟩
  · exact ⟨1, rfl, by decide, by decide⟩
  · exact ⟨2, rfl, by decide, by decide⟩
  · exact ⟨15, rfl, by decide, by decide⟩
  · exact ⟨16, rfl, by decide, by decide⟩
  · exact ⟨14, rfl, by decide, by decide⟩
theorem one_of {v : Int} (h : 0 ≤ v ∧ v < 2) {a b : D} : L2.atI [a, b] v = some a ∨ L2.atI [a, b] v = some b := by
  have : v = 0 ∨ v = 1 := by omega
  rcases this with rfl | rfl
  · exact .inl rfl
  · exact .inr rfl
theorem one_of3 {v : Int} (h : 0 ≤ v ∧ v < 3) {a b c : D} : L2.atI [a, b, c] v = some a ∨ L2.atI [a, b, c] v = some b ∨ L2.atI [a, b, c] v = some c := by
  have : v = 0 ∨ v = 1 ∨ v = 2 := by omega
  rcases this with rfl | rfl | rfl
  · exact .inl rfl
  · exact .inr (.inl rfl)
  · exact .inr (.inr rfl)
theorem cut_pf {x s : Int} (h1 : 0 ≤ s) (h2 : s ≤ 16) (h3 : 0 ≤ x) (h4 : x < 65536) : Pf (x - x % 2 ^ (16 - s).toNat) s := by
  have p := (pow_in ⟨h1, h2⟩).1
  unfold Pf
  generalize (2 : Int) ^ (16 - s).toNat = P at p ⊢
  have d1 := Int.emod_nonneg x (show P ≠ 0 by omega)
  have d2 := Int.mul_ediv_add_emod x P
  have d3 : 0 ≤ x / P := Int.ediv_nonneg h3 (by omega)
  have d4 : 0 ≤ P * (x / P) := Int.mul_nonneg (by omega) d3
  refine ⟨h1, h2, by omega, by omega, ?_⟩
  rw [show x - x % P = P * (x / P) by omega]
  exact Int.mul_emod_right _ _
section
variable {ds : List Int}
theorem y1r_ok (h : Dr ds) (k j : Int) (F M T : D) (fo : List D) (sp : List D) (hs : sp.length ≤ 2) (a8 a9 a10 a11 : Sl) : ∃ n s b9 b10 b11, Pf n s ∧ Y1__law_rules [.fz (.list (ds.map .int)), .fz F, .fz M, .ow none (.list fo), .fz T, .fz (.int k), .ow none (.list sp), .fz (.int j), a8, a9, a10, a11] =
    .ok (.nx, [.fz (.list (ds.map .int)), .fz F, .fz M, .ow none (.list fo), .fz T, .fz (.int k), .ow none (.list (sp ++ [tupI [n, s]])), .fz (.int j), a8, b9, b10, b11]) := by
  obtain ⟨v, h1, h2, h3⟩ := mix_ex h (k + j) (show (0 : Int) < 6 by decide)
  obtain ⟨x0, g1, g2, g3⟩ := mix_ex h (k + 2 + j) (show (0 : Int) < 65536 by decide)
  obtain ⟨x1, g4, g5, g6⟩ := mix_ex h (k + 2 + j) (show (0 : Int) < 8 by decide)
  obtain ⟨u, g7, g8, g9⟩ := mix_ex h (k + 4 + j) (show (0 : Int) < 2 by decide)
  obtain ⟨s, e1, e2, e3⟩ := lens ⟨h2, h3⟩
  have hp := two_at (k := 16 - s) ⟨by omega, by omega⟩
  have p0 := (pow_in ⟨e2, e3⟩).1
  obtain ⟨x, hx, hx0, hx1⟩ : ∃ x, L2.atI [PyData.int x0, .int x1] u = some (.int x) ∧ 0 ≤ x ∧ x < 65536 := by
    rcases one_of (a := PyData.int x0) (b := .int x1) ⟨g8, g9⟩ with q | q
    · exact ⟨x0, q, g2, g3⟩
    · exact ⟨x1, q, g5, by omega⟩
  have pf := cut_pf e2 e3 hx0 hx1
  generalize (2 : Int) ^ (16 - s).toNat = P at hp p0 pf
  refine ⟨x - x % P, s, .fz (.int s), .fz (.int P), .fz (.int x), pf, ?_⟩
  have z6 : (6 : Nat) ≤ sizeLine := small_ok (by omega)
  have z2 : (2 : Nat) ≤ sizeLine := small_ok (by omega)
  have ap := app_small (ds := sp) (d := .tuple [.int (x - x % P), .int s]) (by omega)
  generalize PyData.list (ds.map .int) = DS at *
  unfold Y1__law_rules
  have s1 : sSet 9 (x2 ixD (xLst (aCons (xConst (.int 0)) (aCons (xConst (.int 1)) (aCons (xConst (.int 2)) (aCons (xConst (.int 15)) (aCons (xConst (.int 16)) (aCons (xConst (.int 14)) (aNil)))))))) (xCall 3 F__law_mix (aCons (xVar 0) (aCons (x2 addD (xVar 5) (xVar 7)) (aCons (xConst (.int 6)) (aNil)))))) [.fz DS, .fz F, .fz M, .ow none (.list fo), .fz T, .fz (.int k), .ow none (.list sp), .fz (.int j), a8, a9, a10, a11] = .ok (.nx, [.fz DS, .fz F, .fz M, .ow none (.list fo), .fz T, .fz (.int k), .ow none (.list sp), .fz (.int j), a8, .fz (.int s), a10, a11]) := by
    simp [z6, h1, e1]
  have s2 : sSet 10 (xCall 1 F__law_two (aCons (x2 subD (xConst (.int 16)) (xVar 9)) (aNil))) [.fz DS, .fz F, .fz M, .ow none (.list fo), .fz T, .fz (.int k), .ow none (.list sp), .fz (.int j), a8, .fz (.int s), a10, a11] = .ok (.nx, [.fz DS, .fz F, .fz M, .ow none (.list fo), .fz T, .fz (.int k), .ow none (.list sp), .fz (.int j), a8, .fz (.int s), .fz (.int P), a11]) := by
    simp [hp]
  have s3 : sSet 11 (x2 ixD (xLst (aCons (xCall 3 F__law_mix (aCons (xVar 0) (aCons (x2 addD (x2 addD (xVar 5) (xConst (.int 2))) (xVar 7)) (aCons (xConst (.int 65536)) (aNil))))) (aCons (xCall 3 F__law_mix (aCons (xVar 0) (aCons (x2 addD (x2 addD (xVar 5) (xConst (.int 2))) (xVar 7)) (aCons (xConst (.int 8)) (aNil))))) (aNil)))) (xCall 3 F__law_mix (aCons (xVar 0) (aCons (x2 addD (x2 addD (xVar 5) (xConst (.int 4))) (xVar 7)) (aCons (xConst (.int 2)) (aNil)))))) [.fz DS, .fz F, .fz M, .ow none (.list fo), .fz T, .fz (.int k), .ow none (.list sp), .fz (.int j), a8, .fz (.int s), .fz (.int P), a11] = .ok (.nx, [.fz DS, .fz F, .fz M, .ow none (.list fo), .fz T, .fz (.int k), .ow none (.list sp), .fz (.int j), a8, .fz (.int s), .fz (.int P), .fz (.int x)]) := by
    simp [z2, g1, g4, g7, hx]
  rw [seq_nx s1, seq_nx s2, seq_nx s3]
  simp [mod_int p0, z2, ap]
theorem y2r_ok (h : Dr ds) (first t : Int) (M : D) (fo : List D) (hf : fo.length ≤ 1000) (a5 a6 a7 a8 a9 a10 a11 : Sl) : ∃ r b5 b6 b7 b8 b9 b10 b11, GR r ∧ Y2__law_rules [.fz (.list (ds.map .int)), .fz (.int first), .fz M, .ow none (.list fo), .fz (.int t), a5, a6, a7, a8, a9, a10, a11] =
    .ok (.nx, [.fz (.list (ds.map .int)), .fz (.int first), .fz M, .ow none (.list (fo ++ [dR r])), .fz (.int t), b5, b6, b7, b8, b9, b10, b11]) := by
  obtain ⟨k, hk⟩ : ∃ k, k = first + 1 + 9 * t := ⟨_, rfl⟩
  obtain ⟨n1, s1, b9, b10, b11, p1, e1⟩ := y1r_ok h k 0 (.int first) M (.int t) fo [] (by simp) a8 a9 a10 a11
  obtain ⟨n2, s2, c9, c10, c11, p2, e2⟩ := y1r_ok h k 1 (.int first) M (.int t) fo [tupI [n1, s1]] (by simp) a8 b9 b10 b11
  obtain ⟨x, g1, g2, g3⟩ := mix_ex h (k + 6) (show (0 : Int) < 256 by decide)
  obtain ⟨u, g4, g5, g6⟩ := mix_ex h (k + 7) (show (0 : Int) < 3 by decide)
  obtain ⟨lo, l1, l2, l3⟩ : ∃ lo, L2.atI [PyData.int 0, .int x, .int 5] u = some (.int lo) ∧ 0 ≤ lo ∧ lo < 256 := by
    rcases one_of3 (a := PyData.int 0) (b := .int x) (c := .int 5) ⟨g5, g6⟩ with q | q | q
    · exact ⟨0, q, by decide, by decide⟩
    · exact ⟨x, q, g2, g3⟩
    · exact ⟨5, q, by decide, by decide⟩
  obtain ⟨m, m1, m2, m3⟩ := mix_ex h (k + 7) (show (0 : Int) < 256 - lo by omega)
  obtain ⟨v, v1, v2, v3⟩ := mix_ex h (k + 8) (show (0 : Int) < 2 by decide)
  obtain ⟨w, w1, w2⟩ : ∃ w, L2.atI [PyData.str "let", .str "bar"] v = some (.str w) ∧ (w = "let" ∨ w = "bar") := by
    rcases one_of (a := PyData.str "let") (b := .str "bar") ⟨v2, v3⟩ with q | q
    · exact ⟨_, q, .inl rfl⟩
    · exact ⟨_, q, .inr rfl⟩
  refine ⟨⟨w, n1, s1, n2, s2, lo, lo + m⟩, .fz (.int k), .fz (.list [tupI [n1, s1], tupI [n2, s2]]), .fz (.int 1), .fz (.int lo), c9, c10, c11, ⟨w2, p1, p2, l2, by show lo ≤ lo + m; omega, by show lo + m < 256; omega⟩, ?_⟩
  have z0 : (0 : Nat) ≤ sizeLine := Nat.zero_le _
  have z2 : (2 : Nat) ≤ sizeLine := small_ok (by omega)
  have z3 : (3 : Nat) ≤ sizeLine := small_ok (by omega)
  have z5 : (5 : Nat) ≤ sizeLine := small_ok (by omega)
  have m9 : s64 9 = true := rfl
  have ap := app_small (ds := fo) (d := dR ⟨w, n1, s1, n2, s2, lo, lo + m⟩) (by omega)
  unfold dR at ap ⊢
  simp only at ap ⊢
  have lp : forL (gN 7) Y1__law_rules (rngD 0 1 2) [.fz (.list (ds.map .int)), .fz (.int first), .fz M, .ow none (.list fo), .fz (.int t), .fz (.int k), .ow none (.list []), a7, a8, a9, a10, a11] = .ok (.nx, [.fz (.list (ds.map .int)), .fz (.int first), .fz M, .ow none (.list fo), .fz (.int t), .fz (.int k), .ow none (.list [tupI [n1, s1], tupI [n2, s2]]), .fz (.int 1), a8, c9, c10, c11]) := by
    show forL (gN 7) Y1__law_rules [.int 0, .int 1] _ = _
    unfold forL
    simp only [gN_ap]
    rw [show ([Sl.fz (.list (ds.map .int)), .fz (.int first), .fz M, .ow none (.list fo), .fz (.int t), .fz (.int k), .ow none (.list []), a7, a8, a9, a10, a11] : Ev).set 7 (.fz (.int 0)) = [.fz (.list (ds.map .int)), .fz (.int first), .fz M, .ow none (.list fo), .fz (.int t), .fz (.int k), .ow none (.list []), .fz (.int 0), a8, a9, a10, a11] from rfl, e1]
    simp only [Out.bind_ok]
    unfold forL
    simp only [gN_ap]
    rw [show ([Sl.fz (.list (ds.map .int)), .fz (.int first), .fz M, .ow none (.list fo), .fz (.int t), .fz (.int k), .ow none (.list ([] ++ [tupI [n1, s1]])), .fz (.int 0), a8, b9, b10, b11] : Ev).set 7 (.fz (.int 1)) = [.fz (.list (ds.map .int)), .fz (.int first), .fz M, .ow none (.list fo), .fz (.int t), .fz (.int k), .ow none (.list [tupI [n1, s1]]), .fz (.int 1), a8, b9, b10, b11] from rfl, e2]
    rfl
  have r2 : rng1 [.int 2] = some (rngD 0 1 2) := rfl
  generalize tupI [n1, s1] = Q1 at *
  generalize tupI [n2, s2] = Q2 at *
  generalize PyData.list (ds.map .int) = DS at *
  unfold Y2__law_rules
  have t1 : sSet 5 (x2 addD (x2 addD (xVar 1) (xConst (.int 1))) (x2 mulD (xConst (.int 9)) (xVar 4))) [.fz DS, .fz (.int first), .fz M, .ow none (.list fo), .fz (.int t), a5, a6, a7, a8, a9, a10, a11] = .ok (.nx, [.fz DS, .fz (.int first), .fz M, .ow none (.list fo), .fz (.int t), .fz (.int k), a6, a7, a8, a9, a10, a11]) := by
    simp [mul_l m9, hk]
  have t2 : sOwn 6 (xLst (aNil)) [.fz DS, .fz (.int first), .fz M, .ow none (.list fo), .fz (.int t), .fz (.int k), a6, a7, a8, a9, a10, a11] = .ok (.nx, [.fz DS, .fz (.int first), .fz M, .ow none (.list fo), .fz (.int t), .fz (.int k), .ow none (.list []), a7, a8, a9, a10, a11]) := by simp [z0]
  have t3 := (for_args (G := gN 7) (p := Y1__law_rules) (l := aCons (xConst (.int 2)) aNil) (env := [.fz DS, .fz (.int first), .fz M, .ow none (.list fo), .fz (.int t), .fz (.int k), .ow none (.list []), a7, a8, a9, a10, a11]) (ds := [.int 2]) rfl r2).trans lp
  have t4 : sSet 8 (x2 ixD (xLst (aCons (xConst (.int 0)) (aCons (xCall 3 F__law_mix (aCons (xVar 0) (aCons (x2 addD (xVar 5) (xConst (.int 6))) (aCons (xConst (.int 256)) (aNil))))) (aCons (xConst (.int 5)) (aNil))))) (xCall 3 F__law_mix (aCons (xVar 0) (aCons (x2 addD (xVar 5) (xConst (.int 7))) (aCons (xConst (.int 3)) (aNil)))))) [.fz DS, .fz (.int first), .fz M, .ow none (.list fo), .fz (.int t), .fz (.int k), .ow none (.list [Q1, Q2]), .fz (.int 1), a8, c9, c10, c11] = .ok (.nx, [.fz DS, .fz (.int first), .fz M, .ow none (.list fo), .fz (.int t), .fz (.int k), .ow none (.list [Q1, Q2]), .fz (.int 1), .fz (.int lo), c9, c10, c11]) := by
    simp [z3, g1, g4, l1]
  rw [seq_nx t1, seq_nx t2, seq_nx t3, seq_nx t4]
  simp [z2, v1, w1, m1, z5, ap]
theorem rules_ok (h : Dr ds) (first : Int) {most : Int} (h1 : 0 ≤ most) (h2 : most ≤ 6) : ∃ rs, F__law_rules [.list (ds.map .int), .int first, .int most] = .ok (rest rs) ∧ AllG rs ∧ rs.length ≤ 6 := by
  obtain ⟨c, g1, g2, g3⟩ := mix_ex h first (show (0 : Int) < most + 1 by omega)
  obtain ⟨n, rfl⟩ : ∃ n : Nat, c = n := ⟨c.toNat, by omega⟩
  have hr := rng1_nat (n := n) (by omega)
  obtain ⟨e2, q1, rs, hG, hl, b4, b5, b6, b7, b8, b9, b10, b11, q2⟩ := for_inv (g := gN 4) (body := Y2__law_rules) (fun i env => ∃ rs, AllG rs ∧ rs.length = i ∧ ∃ b4 b5 b6 b7 b8 b9 b10 b11, env = [.fz (.list (ds.map .int)), .fz (.int first), .fz (.int most), .ow none (rest rs), b4, b5, b6, b7, b8, b9, b10, b11]) ((List.range n).map fun (i : Nat) => PyData.int (i : Int)) 0 [.fz (.list (ds.map .int)), .fz (.int first), .fz (.int most), .ow none (.list []), .no, .no, .no, .no, .no, .no, .no, .no] (fun i x env hx he => by
    obtain ⟨rs, hG, hl, b4, b5, b6, b7, b8, b9, b10, b11, rfl⟩ := he
    have hi : i < n := by
      have := (List.getElem?_eq_some_iff.mp hx).1
      simpa using this
    obtain ⟨t, rfl⟩ : ∃ t, x = .int t := by
      rw [List.getElem?_map] at hx
      obtain ⟨t, _, e⟩ := Option.map_eq_some_iff.mp hx
      exact ⟨_, e.symm⟩
    obtain ⟨r, c5, c6, c7, c8, c9, c10, c11, gr, e⟩ := y2r_ok h first t (.int most) (rs.map dR) (by rw [List.length_map]; omega) b5 b6 b7 b8 b9 b10 b11
    refine ⟨_, _, rfl, e, rs ++ [r], fun r' hr' => (List.mem_append.mp hr').elim (hG r') fun z => by rw [List.mem_singleton.mp z]; exact gr, by rw [List.length_append, List.length_singleton, hl], .fz (.int t), c5, c6, c7, c8, c9, c10, c11, ?_⟩
    unfold rest
    rw [List.map_append]
    rfl) ⟨[], (fun _ h => nomatch h), rfl, _, _, _, _, _, _, _, _, rfl⟩
  rw [List.length_map, List.length_range, Nat.zero_add] at hl
  refine ⟨rs, ?_, hG, by omega⟩
  subst q2
  refine runB_rt (e := [.fz (.list (ds.map .int)), .fz (.int first), .fz (.int most), .fz (rest rs), b4, b5, b6, b7, b8, b9, b10, b11]) ?_
  show B__law_rules [.fz (.list (ds.map .int)), .fz (.int first), .fz (.int most), .no, .no, .no, .no, .no, .no, .no, .no, .no] = _
  generalize PyData.list (ds.map .int) = DS at *
  have z0 : (0 : Nat) ≤ sizeLine := Nat.zero_le _
  unfold B__law_rules
  have t1 : sOwn 3 (xLst (aNil)) [.fz DS, .fz (.int first), .fz (.int most), .no, .no, .no, .no, .no, .no, .no, .no, .no] = .ok (.nx, [.fz DS, .fz (.int first), .fz (.int most), .ow none (.list []), .no, .no, .no, .no, .no, .no, .no, .no]) := by simp [z0]
  have ar : (aCons (xCall 3 F__law_mix (aCons (xVar 0) (aCons (xVar 1) (aCons (x2 addD (xVar 2) (xConst (.int 1))) (aNil))))) (aNil)) [.fz DS, .fz (.int first), .fz (.int most), .ow none (.list []), .no, .no, .no, .no, .no, .no, .no, .no] = .ok ([.int (n : Int)], [.fz DS, .fz (.int first), .fz (.int most), .ow none (.list []), .no, .no, .no, .no, .no, .no, .no, .no]) := by simp [g1]
  rw [seq_nx t1, seq_nx ((for_args ar hr).trans q1)]
  rfl
end
end K03
set_option Elab.async false
set_option linter.all false
set_option maxRecDepth 100000
namespace K03
open PySem DP
def gd : D := .tuple [.str "let", tupI [0, 0], tupI [0, 0], .int 0, .int 255]
def rg : Ru := ⟨"let", 0, 0, 0, 0, 0, 255⟩
theorem gd_eq : gd = dR rg := rfl
theorem rg_ok : GR rg := ⟨.inl rfl, ⟨by decide, by decide, by decide, by decide, by decide⟩, ⟨by decide, by decide, by decide, by decide, by decide⟩, by decide, by decide, by decide⟩
theorem gd_rule : F_is_rule [gd] = .ok (.bool true) := is_rule_ok (r := rg) rg_ok
theorem pf00 : F_is_prefix [tupI [0, 0]] = .ok (.bool true) := is_prefix_ok ⟨by decide, by decide, by decide, by decide, by decide⟩
theorem pf10 : F_is_prefix [tupI [1, 0]] = .ok (.bool false) := by
  have hw := width_at (L := 0) ⟨by decide, by decide⟩
  have hw : F_width [.int 0] = .ok (.int 65536) := hw
  have m : modD (.int 1) (.int 65536) = some (.int 1) := mod_int (by decide)
  unfold F_is_prefix runB B_is_prefix
  simp [hw, m]
theorem pf17 : F_is_prefix [tupI [0, 17]] = .ok (.bool false) := by
  unfold F_is_prefix runB B_is_prefix
  simp
theorem in_let : inD (.str "let") (.tuple (([("let" : Str), "bar"] : List Str).map .str)) = some (.bool true) := rfl
theorem in_bar : inD (.str "bar") (.tuple (([("let" : Str), "bar"] : List Str).map .str)) = some (.bool true) := rfl
theorem in_lets : inD (.str "lets") (.tuple (([("let" : Str), "bar"] : List Str).map .str)) = some (.bool false) := rfl
abbrev ru (w : Str) (p q : D) (lo up : Int) : D := .tuple [.str w, p, q, .int lo, .int up]
section
variable {w : Str} {p q : D} {lo up : Int}
theorem bad_w (h : inD (.str w) (.tuple (([("let" : Str), "bar"] : List Str).map .str)) = some (.bool false)) : F_is_rule [ru w p q lo up] = .ok (.bool false) := by
  unfold F_is_rule runB B_is_rule
  simp only [List.map_cons, List.map_nil] at h
  simp [h]
theorem bad_p (h : inD (.str w) (.tuple (([("let" : Str), "bar"] : List Str).map .str)) = some (.bool true)) (h1 : F_is_prefix [p] = .ok (.bool false)) : F_is_rule [ru w p q lo up] = .ok (.bool false) := by
  unfold F_is_rule runB B_is_rule
  simp only [List.map_cons, List.map_nil] at h
  simp [h, h1]
theorem bad_q (h : inD (.str w) (.tuple (([("let" : Str), "bar"] : List Str).map .str)) = some (.bool true)) (h1 : F_is_prefix [p] = .ok (.bool true)) (h2 : F_is_prefix [q] = .ok (.bool false)) : F_is_rule [ru w p q lo up] = .ok (.bool false) := by
  unfold F_is_rule runB B_is_rule
  simp only [List.map_cons, List.map_nil] at h
  simp [h, h1, h2]
theorem bad_m (h : inD (.str w) (.tuple (([("let" : Str), "bar"] : List Str).map .str)) = some (.bool true)) (h1 : F_is_prefix [p] = .ok (.bool true)) (h2 : F_is_prefix [q] = .ok (.bool true)) (h3 : 0 ≤ lo) (h4 : ¬ (lo ≤ up ∧ up < 256)) : F_is_rule [ru w p q lo up] = .ok (.bool false) := by
  unfold F_is_rule runB B_is_rule
  simp only [List.map_cons, List.map_nil] at h
  by_cases k : lo ≤ up
  · have k2 : ¬ up < 256 := fun z => h4 ⟨k, z⟩
    simp [h, h1, h2, h3, k, k2]
  · simp [h, h1, h2, h3, k]
end
theorem check_bad {b : D} (h : F_is_rule [b] = .ok (.bool false)) : ∃ e, F_check_rules [.list [gd, b]] = .exc "BadRule" (.int 1) e := by
  have g := gd_rule
  have e1 : enumD [.list [gd, b]] = some [.tuple [.int 0, gd], .tuple [.int 1, b]] := rfl
  have e3 : lenD [.list [gd, b]] = some (.int 2) := rfl
  generalize PyData.list [gd, b] = R at *
  generalize gd = G at *
  refine ⟨[.fz R, .fz (.int 1), .fz b], runB_exc ?_⟩
  show B_check_rules [.fz R, .no, .no] = _
  have y1 : Y1_check_rules [.fz R, .fz (.int 0), .fz G] = .ok (.nx, [.fz R, .fz (.int 0), .fz G]) := by unfold Y1_check_rules; simp [g]
  have y2 : Y1_check_rules [.fz R, .fz (.int 1), .fz b] = .exc "BadRule" (.int 1) [.fz R, .fz (.int 1), .fz b] := by unfold Y1_check_rules; simp [h]
  have f : forL (gT (glCons (gN 1) (glCons (gN 2) (glNil)))) Y1_check_rules [.tuple [.int 0, G], .tuple [.int 1, b]] [.fz R, .no, .no] = .exc "BadRule" (.int 1) [.fz R, .fz (.int 1), .fz b] := by
    unfold forL
    rw [show gT (glCons (gN 1) (glCons (gN 2) glNil)) (.tuple [.int 0, G]) [.fz R, .no, .no] = some [.fz R, .fz (.int 0), .fz G] from rfl]
    simp only [y1, Out.bind_ok]
    unfold forL
    rw [show gT (glCons (gN 1) (glCons (gN 2) glNil)) (.tuple [.int 1, b]) [.fz R, .fz (.int 0), .fz G] = some [.fz R, .fz (.int 1), .fz b] from rfl]
    simp only [y2, Out.bind_exc]
  unfold B_check_rules
  simp [e1, e3, f]
theorem check_many {ds : List D} (h : ds.length = 21) : ∃ e, F_check_rules [.list ds] = .exc "TooMany" (.int 21) e := by
  have e3 : lenD [.list ds] = some (.int 21) := by rw [lenD_l, h]; rfl
  generalize PyData.list ds = R at *
  refine ⟨[.fz R, .no, .no], runB_exc ?_⟩
  show B_check_rules [.fz R, .no, .no] = _
  unfold B_check_rules
  simp [e3]
section
variable {R : D} {c : Str} {d : D}
theorem lets_x (h : ∃ e, F_check_rules [R] = .exc c d e) (s t m : D) : ∃ e, F_lets [R, s, t, m] = .exc c d e := by
  obtain ⟨e, h⟩ := h
  unfold F_lets runB B_lets
  simp [h]
theorem unlike_x (h : ∃ e, F_check_rules [R] = .exc c d e) : ∃ e, F_unlike [.list [], R] = .exc c d e := by
  obtain ⟨e, h⟩ := h
  have h0 : F_check_rules [.list []] = .ok .none := check_ok (rs := []) (fun _ h => nomatch h) (by decide)
  generalize PyData.list [] = R0 at *
  unfold F_unlike runB B_unlike
  simp [h0, h]
theorem never_x (h : ∃ e, F_check_rules [R] = .exc c d e) : ∃ e, F_never_fits [R] = .exc c d e := by
  obtain ⟨e, h⟩ := h
  unfold F_never_fits runB B_never_fits
  simp [h]
theorem needless_x (h : ∃ e, F_check_rules [R] = .exc c d e) : ∃ e, F_needless [R] = .exc c d e := by
  obtain ⟨e, h⟩ := h
  unfold F_needless runB B_needless
  simp [h]
theorem fewer_x (h : ∃ e, F_check_rules [R] = .exc c d e) : ∃ e, F_fewer [R] = .exc c d e := by
  obtain ⟨e, h⟩ := h
  unfold F_fewer runB B_fewer
  simp [h]
/-- the body of the try -/
theorem try_x (h : ∃ e, F_check_rules [R] = .exc c d e) {way : Int} (h0 : 0 ≤ way) (h6 : way < 6) :
    (sIf (tst (x2 eqD (xVar 0) (xConst (.int 0)))) (sDrop (xCall 4 F_lets (aCons (xVar 1) (aCons (xConst (.int 0)) (aCons (xConst (.int 0)) (aCons (xConst (.int 0)) (aNil))))))) (sIf (tst (x2 eqD (xVar 0) (xConst (.int 1)))) (sDrop (xCall 2 F_unlike (aCons (xLst (aNil)) (aCons (xVar 1) (aNil))))) (sDrop (xCallFs ((1, F_check_rules) :: (1, F_never_fits) :: (1, F_needless) :: (1, F_fewer) :: []) (x2 subD (xVar 0) (xConst (.int 2))) (aCons (xVar 1) (aNil)))))) [.fz (.int way), .fz R, .no] = .exc c d [.fz (.int way), .fz R, .no] := by
  have z0 : (0 : Nat) ≤ sizeLine := Nat.zero_le _
  have : way = 0 ∨ way = 1 ∨ way = 2 ∨ way = 3 ∨ way = 4 ∨ way = 5 := by omega
  rcases this with rfl | rfl | rfl | rfl | rfl | rfl
  · obtain ⟨e, q⟩ := lets_x h (.int 0) (.int 0) (.int 0)
    simp [q]
  · obtain ⟨e, q⟩ := unlike_x h
    simp [q, z0]
  · obtain ⟨e, q⟩ := h
    simp [xCallFs, q]
  · obtain ⟨e, q⟩ := never_x h
    simp [xCallFs, q]
  · obtain ⟨e, q⟩ := needless_x h
    simp [xCallFs, q]
  · obtain ⟨e, q⟩ := fewer_x h
    simp [xCallFs, q]
end
theorem fault_rule {R d : D} (h : ∃ e, F_check_rules [R] = .exc "BadRule" d e) {way : Int} (h0 : 0 ≤ way) (h6 : way < 6) : F__law_fault [.int way, R] = .ok (.tuple [.str "rule", d]) := by
  have t := try_x h h0 h6
  refine runB_rt (e := [.fz (.int way), .fz R, .no]) ?_
  show B__law_fault [.fz (.int way), .fz R, .no] = _
  unfold B__law_fault
  refine seq_rt ?_
  unfold sTry
  rw [t]
  rfl
theorem fault_many {R d : D} (h : ∃ e, F_check_rules [R] = .exc "TooMany" d e) {way : Int} (h0 : 0 ≤ way) (h6 : way < 6) : F__law_fault [.int way, R] = .ok (.tuple [.str "many", d]) := by
  have t := try_x h h0 h6
  refine runB_rt (e := [.fz (.int way), .fz R, .no]) ?_
  show B__law_fault [.fz (.int way), .fz R, .no] = _
  unfold B__law_fault
  refine seq_rt ?_
  unfold sTry
  rw [t]
  rfl
end K03
set_option Elab.async false
set_option linter.all false
set_option maxRecDepth 100000
namespace K03
open PySem DP
section
variable {ns : List Int} {DS : D} {rs : List Ru} {a3 a4 a5 a6 a7 a8 a9 a10 a11 a12 a13 a14 a15 a16 a17 a18 : Sl}
theorem repr_bool (b : Bool) : reprD [.bool b] = some (.str (PyData.bool b).shown) := repr_nc rfl (by cases b <;> decide) (by cases b <;> decide)
theorem zip_nat (rs : List Ru) : ((List.range rs.length).map nD) = (rs.zipIdx 0).map fun p => nD p.2 := by
  have e : (rs.zipIdx 0).map (fun p => nD p.2) = ((rs.zipIdx 0).map Prod.snd).map nD := by rw [List.map_map]; rfl
  rw [e, List.zipIdx_map_snd, List.range_eq_range']
theorem take_one (rs : List Ru) (s t m : Int) : ((fitsAt rs s t m).map fun p => nD p.2).take 1 = ((firstP rs s t m).toList).map nD := by
  unfold firstP
  cases fitsAt rs s t m with
  | nil => rfl
  | cons p L => simp

theorem corner_ok (h : AllG rs) (hl : rs.length ≤ 6) (fo : List Nat) (hf : fo.length ≤ 900000) (s t m : Int) : Y2_law [.sc ns, .fz DS, .fz (rest rs), a3, a4, .fz (.list (fo.map nD)), a6, a7, a8, .no, a10, a11, a12, .fz (.int s), .fz (.int t), .fz (.int m), a16, a17, a18] =
    .ok (.nx, [.sc ns, .fz DS, .fz (rest rs), a3, a4, .fz (.list ((fo ++ (firstP rs s t m).toList).map nD)), a6, a7, a8, .no, a10, .fz (.list ((fitsAt rs s t m).map fun p => nD p.2)), a12, .fz (.int s), .fz (.int t), .fz (.int m), a16, a17, a18]) := by
  have e3 : lenD [rest rs] = some (.int rs.length) := by simp [rest]
  have q := cmp_map (F := fun p : Ru × Nat => nD p.2) (g := gN 9) (ts := tAndF (tst (xCall 2 F__law_holds (aCons (x2 ixD (x2 ixD (xVar 2) (xVar 9)) (xConst (.int 1))) (aCons (xVar 13) (aNil))))) (tAndF (tst (xCall 2 F__law_holds (aCons (x2 ixD (x2 ixD (xVar 2) (xVar 9)) (xConst (.int 2))) (aCons (xVar 14) (aNil))))) (tst (xChain leD leD (x2 ixD (x2 ixD (xVar 2) (xVar 9)) (xConst (.int 3))) (xVar 15) (x2 ixD (x2 ixD (xVar 2) (xVar 9)) (xConst (.int 4))))))) (el := E1_law) (vs := [9]) (env := [.sc ns, .fz DS, .fz (rest rs), a3, a4, .fz (.list (fo.map nD)), a6, a7, a8, .no, a10, a11, a12, .fz (.int s), .fz (.int t), .fz (.int m), a16, a17, a18])
    (b := fun p => fits p.1 s t m) (f := fun p => nD p.2) (rs.zipIdx 0) (fun p hp => by
      have hG : GR p.1 := h _ (List.fst_mem_of_mem_zipIdx hp)
      have i0 : ixD (rest rs) (nD p.2) = some (dR p.1) := by
        show L2.atI (rs.map dR) ((p.2 : Nat) : Int) = _
        have q := List.mem_zipIdx_iff_getElem?.mp hp
        have lt : p.2 < (rs.map dR).length := by rw [List.length_map]; exact (List.getElem?_eq_some_iff.mp q).1
        rw [atI_lt lt, List.getElem?_map, q]
        rfl
      have h1 := law_holds_ok hG.p1 s
      have h2 := law_holds_ok hG.p2 t
      refine ⟨[.sc ns, .fz DS, .fz (rest rs), a3, a4, .fz (.list (fo.map nD)), a6, a7, a8, .fz (nD p.2), a10, a11, a12, .fz (.int s), .fz (.int t), .fz (.int m), a16, a17, a18], rfl, ?_, fun _ => rfl, rfl⟩
      unfold fits
      generalize hb1 : (decide (p.1.n1 ≤ s) && decide (s < hi p.1.n1 p.1.s1)) = b1 at h1 ⊢
      generalize hb2 : (decide (p.1.n2 ≤ t) && decide (t < hi p.1.n2 p.1.s2)) = b2 at h2 ⊢
      have x1 := dR_1 (r := p.1)
      have x2 := dR_2 (r := p.1)
      have x3 := dR_3 (r := p.1)
      have x4 := dR_4 (r := p.1)
      generalize PyData.list (fo.map nD) = FO
      generalize nD p.2 = KK at *
      generalize dR p.1 = Q at *
      generalize rest rs = R at *
      cases b1 <;> cases b2 <;> by_cases hm : p.1.lo ≤ m <;> simp [i0, x1, x2, x3, x4, h1, h2, hm])
  have fl : (fitsAt rs s t m).length ≤ 6 := by
    refine Nat.le_trans (List.length_filter_le _ _) ?_
    rw [List.length_zipIdx]; exact hl
  have c := comp_ok (it := iArgs rng1 (aCons (xn lenD (aCons (xVar 2) (aNil))) (aNil))) (vs := [9]) (env := [.sc ns, .fz DS, .fz (rest rs), a3, a4, .fz (.list (fo.map nD)), a6, a7, a8, .no, a10, a11, a12, .fz (.int s), .fz (.int t), .fz (.int m), a16, a17, a18]) (e1 := [.sc ns, .fz DS, .fz (rest rs), a3, a4, .fz (.list (fo.map nD)), a6, a7, a8, .no, a10, a11, a12, .fz (.int s), .fz (.int t), .fz (.int m), a16, a17, a18]) (args_ok (ds := [.int rs.length]) (e1 := [.sc ns, .fz DS, .fz (rest rs), a3, a4, .fz (.list (fo.map nD)), a6, a7, a8, .no, a10, a11, a12, .fz (.int s), .fz (.int t), .fz (.int m), a16, a17, a18]) (by generalize PyData.list (fo.map nD) = FO; generalize rest rs = R at *; simp [e3]) ((rng1_nat (by omega)).trans (congrArg some (zip_nat rs)))) q (by rw [List.length_map]; exact small_ok (Nat.le_trans fl (by omega)))
  have s1 : sSet 11 (xComp (iArgs rng1 (aCons (xn lenD (aCons (xVar 2) (aNil))) (aNil))) (gN 9) (tAndF (tst (xCall 2 F__law_holds (aCons (x2 ixD (x2 ixD (xVar 2) (xVar 9)) (xConst (.int 1))) (aCons (xVar 13) (aNil))))) (tAndF (tst (xCall 2 F__law_holds (aCons (x2 ixD (x2 ixD (xVar 2) (xVar 9)) (xConst (.int 2))) (aCons (xVar 14) (aNil))))) (tst (xChain leD leD (x2 ixD (x2 ixD (xVar 2) (xVar 9)) (xConst (.int 3))) (xVar 15) (x2 ixD (x2 ixD (xVar 2) (xVar 9)) (xConst (.int 4))))))) (E1_law) [9]) [.sc ns, .fz DS, .fz (rest rs), a3, a4, .fz (.list (fo.map nD)), a6, a7, a8, .no, a10, a11, a12, .fz (.int s), .fz (.int t), .fz (.int m), a16, a17, a18] = .ok (.nx, [.sc ns, .fz DS, .fz (rest rs), a3, a4, .fz (.list (fo.map nD)), a6, a7, a8, .no, a10, .fz (.list ((fitsAt rs s t m).map fun p => nD p.2)), a12, .fz (.int s), .fz (.int t), .fz (.int m), a16, a17, a18]) := by rw [sSet_ap, c]; rfl

  have sl : slD (.list ((fitsAt rs s t m).map fun p => nD p.2)) none (some 1) = some (.list (((firstP rs s t m).toList).map nD)) := by rw [← take_one]; exact sl_take _ 1
  have ol : (firstP rs s t m).toList.length ≤ 1 := by cases firstP rs s t m <;> simp
  have ad : addD (.list (fo.map nD)) (.list (((firstP rs s t m).toList).map nD)) = some (.list ((fo ++ (firstP rs s t m).toList).map nD)) := by
    rw [add_lists (by rw [List.length_map, List.length_map]; omega), List.map_append]
  have lt := lets_ok h (by omega) s t m
  have lp := law_passes_ok h (by omega) s t m
  have rb := repr_bool (passP rs s t m)
  unfold Y2_law
  rw [seq_nx s1]
  clear c q s1
  generalize PyData.list ((fo ++ (firstP rs s t m).toList).map nD) = F2 at *
  generalize PyData.list (fo.map nD) = F0 at *
  generalize PyData.list (((firstP rs s t m).toList).map nD) = F1 at *
  generalize PyData.list ((fitsAt rs s t m).map fun p => nD p.2) = FA at *
  generalize rest rs = R at *
  generalize passP rs s t m = b at *
  simp [sl, ad, lt, lp, rb]

theorem cornersL_ok (h : AllG rs) (hl : rs.length ≤ 6) : ∃ b11 b13 b14 b15, forL (gT (glCons (gN 13) (glCons (gN 14) (glCons (gN 15) (glNil))))) Y2_law ((trip rs).map dT) [.sc ns, .fz DS, .fz (rest rs), a3, a4, .fz (.list []), a6, a7, a8, .no, a10, a11, a12, a13, a14, a15, a16, a17, a18] = .ok (.nx, [.sc ns, .fz DS, .fz (rest rs), a3, a4, .fz (.list ((firsts rs).map nD)), a6, a7, a8, .no, a10, b11, a12, b13, b14, b15, a16, a17, a18]) := by
  have tl := trip_len (rs := rs) (by omega)
  obtain ⟨e2, h1, _, b11, b13, b14, b15, h2⟩ := for_fold (F := dT) (g := gT (glCons (gN 13) (glCons (gN 14) (glCons (gN 15) (glNil))))) (body := Y2_law) (st := fun (fo : List Nat) p => fo ++ (firstP rs p.1 p.2.1 p.2.2).toList) (fun n fo env => fo.length + n ≤ 300000 ∧ ∃ b11 b13 b14 b15, env = [.sc ns, .fz DS, .fz (rest rs), a3, a4, .fz (.list (fo.map nD)), a6, a7, a8, .no, a10, b11, a12, b13, b14, b15, a16, a17, a18]) (trip rs) [] [.sc ns, .fz DS, .fz (rest rs), a3, a4, .fz (.list []), a6, a7, a8, .no, a10, a11, a12, a13, a14, a15, a16, a17, a18] (fun p _ n fo env he => by
    obtain ⟨hn, b11, b13, b14, b15, rfl⟩ := he
    refine ⟨[.sc ns, .fz DS, .fz (rest rs), a3, a4, .fz (.list (fo.map nD)), a6, a7, a8, .no, a10, b11, a12, .fz (.int p.1), .fz (.int p.2.1), .fz (.int p.2.2), a16, a17, a18], _, rfl, corner_ok h hl fo (by omega) p.1 p.2.1 p.2.2, ?_, _, _, _, _, rfl⟩
    have ol : (firstP rs p.1 p.2.1 p.2.2).toList.length ≤ 1 := by cases firstP rs p.1 p.2.1 p.2.2 <;> simp
    rw [List.length_append]
    omega) ⟨by simp; omega, _, _, _, _, rfl⟩
  rw [foldl_app, List.nil_append] at h2
  exact ⟨b11, b13, b14, b15, by rw [h1, h2]; rfl⟩

theorem packet_ok {ds : List Int} (hd : Dr ds) (h : AllG rs) (hl : rs.length ≤ 6) (t : Int) : ∃ b16, Y3_law [.sc ns, .fz (.list (ds.map .int)), .fz (rest rs), a3, a4, a5, .fz (.int t), a7, a8, a9, a10, a11, a12, a13, a14, a15, a16, a17, a18] = .ok (.nx, [.sc ns, .fz (.list (ds.map .int)), .fz (rest rs), a3, a4, a5, .fz (.int t), a7, a8, a9, a10, a11, a12, a13, a14, a15, b16, a17, a18]) := by
  obtain ⟨x, x1, _, _⟩ := mix_ex hd (80 + t) (show (0 : Int) < 65536 by decide)
  obtain ⟨y, y1, _, _⟩ := mix_ex hd (90 + t) (show (0 : Int) < 65536 by decide)
  obtain ⟨z, z1, _, _⟩ := mix_ex hd (100 + t) (show (0 : Int) < 256 by decide)
  have lt := lets_ok h (by omega) x y z
  have lp := law_passes_ok h (by omega) x y z
  have rb := repr_bool (passP rs x y z)
  have z3 : (3 : Nat) ≤ sizeLine := small_ok (by omega)
  generalize PyData.list (ds.map .int) = DS at *
  generalize rest rs = R at *
  generalize passP rs x y z = b at *
  exact ⟨.fz (.tuple [.int x, .int y, .int z]), by unfold Y3_law; simp [x1, y1, z1, lt, lp, rb, z3]⟩

theorem packets_ok {ds : List Int} (hd : Dr ds) (h : AllG rs) (hl : rs.length ≤ 6) : ∃ b6 b16, forL (gN 6) Y3_law ((List.range 4).map fun (i : Nat) => PyData.int (i : Int)) [.sc ns, .fz (.list (ds.map .int)), .fz (rest rs), a3, a4, a5, a6, a7, a8, a9, a10, a11, a12, a13, a14, a15, a16, a17, a18] = .ok (.nx, [.sc ns, .fz (.list (ds.map .int)), .fz (rest rs), a3, a4, a5, b6, a7, a8, a9, a10, a11, a12, a13, a14, a15, b16, a17, a18]) := by
  obtain ⟨e2, h1, b6, b16, h2⟩ := for_fold (F := fun (i : Nat) => PyData.int (i : Int)) (g := gN 6) (body := Y3_law) (st := fun (u : Unit) _ => u) (fun n _ env => ∃ b6 b16, env = [.sc ns, .fz (.list (ds.map .int)), .fz (rest rs), a3, a4, a5, b6, a7, a8, a9, a10, a11, a12, a13, a14, a15, b16, a17, a18]) (List.range 4) () [.sc ns, .fz (.list (ds.map .int)), .fz (rest rs), a3, a4, a5, a6, a7, a8, a9, a10, a11, a12, a13, a14, a15, a16, a17, a18] (fun i _ n _ env he => by
    obtain ⟨b6, b16, rfl⟩ := he
    obtain ⟨c16, q⟩ := packet_ok (a16 := b16) hd h hl (i : Int)
    exact ⟨_, _, rfl, q, _, _, rfl⟩) ⟨_, _, rfl⟩
  exact ⟨b6, b16, by rw [h1, h2]⟩

end
end K03
set_option Elab.async false
set_option linter.all false
set_option maxRecDepth 100000
namespace K03
open PySem DP
section
variable {ns : List Int} {DS : D} {rs : List Ru} {a3 a4 a5 a6 a7 a8 a9 a10 a11 a12 a13 a14 a15 a16 a17 a18 : Sl}
theorem nc_nats {l : List Nat} {B : Nat} (hB : B ≤ 100000) (h : ∀ k ∈ l, k ≤ B) (hl : l.length ≤ 1000) : ∃ s, reprD [.list (l.map nD)] = some (.str s) := by
  refine ⟨_, repr_nc (nc_list fun x hx => ?_) ?_ ?_⟩
  · obtain ⟨k, hk, rfl⟩ := List.mem_map.mp hx
    have := h k hk
    exact nc_int (by omega) (by omega)
  · have := depth_list (n := 0) (xs := l.map nD) fun x hx => by obtain ⟨k, _, rfl⟩ := List.mem_map.mp hx; exact Nat.le_refl _
    omega
  · have := bulk_list (n := 1) (xs := l.map nD) fun x hx => by obtain ⟨k, _, rfl⟩ := List.mem_map.mp hx; simp [PyData.bulk]
    rw [List.length_map] at this
    omega
theorem rules_repr {rs : List Ru} (h : AllG rs) (hl : rs.length ≤ 20) : ∃ s, reprD [rest rs] = some (.str s) := by
  have pfn : ∀ {n s : Int}, Pf n s → nc (tupI [n, s]) = true := fun {n s} p => nc_tuple fun x hx => by
    simp only [List.map_cons, List.map_nil, List.mem_cons, List.not_mem_nil, or_false] at hx
    obtain ⟨p1, p2, p3, p4, _⟩ := p
    rcases hx with rfl | rfl
    · exact nc_int (by omega) (by omega)
    · exact nc_int (by omega) (by omega)
  have one : ∀ r, GR r → nc (dR r) = true ∧ (dR r).depth ≤ 2 ∧ (dR r).bulk ≤ 100 := fun r g => by
    refine ⟨nc_tuple fun x hx => ?_, ?_, ?_⟩
    · simp only [List.mem_cons, List.not_mem_nil, or_false] at hx
      have := g.m0; have := g.m1; have := g.m2
      rcases hx with rfl | rfl | rfl | rfl | rfl
      · rcases g.w with e | e <;> rw [e] <;> rfl
      · exact pfn g.p1
      · exact pfn g.p2
      · exact nc_int (by omega) (by omega)
      · exact nc_int (by omega) (by omega)
    · simp [dR, PyData.depth, PyData.depthAll]
    · rcases g.w with e | e <;> (simp only [dR, e, PyData.bulk, PyData.bulkAll, List.map_cons, List.map_nil]; decide)
  refine ⟨_, repr_nc (nc_list fun x hx => ?_) ?_ ?_⟩
  · obtain ⟨r, hr, rfl⟩ := List.mem_map.mp hx
    exact (one r (h r hr)).1
  · have := depth_list (n := 2) (xs := rs.map dR) fun x hx => by obtain ⟨r, hr, rfl⟩ := List.mem_map.mp hx; exact (one r (h r hr)).2.1
    unfold rest
    omega
  · have := bulk_list (n := 100) (xs := rs.map dR) fun x hx => by obtain ⟨r, hr, rfl⟩ := List.mem_map.mp hx; exact (one r (h r hr)).2.2
    rw [List.length_map] at this
    unfold rest
    omega
theorem oD_repr {one two : List Ru} (h : AllG one) (k : AllG two) : ∃ s, reprD [oD (diffP one two)] = some (.str s) := by
  cases e : diffP one two with
  | none => exact ⟨_, repr_nc (d := .none) rfl (by decide) (by decide)⟩
  | some p =>
    have hp := trip_in (h.app k) (List.mem_of_find?_eq_some e)
    obtain ⟨i1, i2, i3, i4, i5, i6⟩ := hp
    refine ⟨_, repr_nc (d := dT p) (nc_tuple fun x hx => ?_) ?_ ?_⟩
    · simp only [List.map_cons, List.map_nil, List.mem_cons, List.not_mem_nil, or_false] at hx
      rcases hx with rfl | rfl | rfl <;> exact nc_int (by omega) (by omega)
    · simp [PyData.depth, PyData.depthAll]
    · simp only [dT, tupI, PyData.bulk, PyData.bulkAll, List.map_cons, List.map_nil]; decide

theorem ne_repr {f g : XF} {env : Ev} {d : D} {s : Str} (hf : f env = .ok (d, env)) (hg : g env = .ok (d, env)) (hr : reprD [d] = some (.str s)) : tst (x2 neD (xn reprD (aCons f aNil)) (xn reprD (aCons g aNil))) env = .ok (false, env) := by
  simp only [tst_ap, x2_ap, xn_ap, aCons_ap, aNil_ap, hf, hg, Out.bind_ok, hr, liftO_some, ne_strD, asB_bool]
  simp
theorem or_no {a b : TF} {env : Ev} (h1 : a env = .ok (false, env)) (h2 : b env = .ok (false, env)) : tOrF a b env = .ok (false, env) := by
  simp only [tOr_ap, h1, Out.bind_ok, Bool.false_eq_true, if_false, h2]
theorem if_skip {c : TF} {p : SF} {env : Ev} (h : c env = .ok (false, env)) : sIf c p sNext env = .ok (.nx, env) := by
  simp only [sIf_ap, h, Out.bind_ok, Bool.false_eq_true, if_false, sNext_ap]
theorem call1 {i : Nat} {F : FD} {env : Ev} {d r : D} (h : xVar i env = .ok (d, env)) (hF : F [d] = .ok r) : xCall 1 F (aCons (xVar i) aNil) env = .ok (r, env) := by
  simp only [xCall_ap, aCons_ap, h, Out.bind_ok, aNil_ap, List.length_cons, List.length_nil, if_true, hF]
theorem call2 {i j : Nat} {F : FD} {env : Ev} {d d2 r : D} (h : xVar i env = .ok (d, env)) (h2 : xVar j env = .ok (d2, env)) (hF : F [d, d2] = .ok r) : xCall 2 F (aCons (xVar i) (aCons (xVar j) aNil)) env = .ok (r, env) := by
  simp only [xCall_ap, aCons_ap, h, h2, Out.bind_ok, aNil_ap, List.length_cons, List.length_nil, if_true, hF]

theorem free_ok (h : AllG rs) (hl : rs.length ≤ 6) (X : SF) : sSeq (sSet 7 (xComp (iArgs rng1 (aCons (xn lenD (aCons (xVar 2) (aNil))) (aNil))) (gN 9) (tst (x1 isN (xCall 2 F__law_unlike (aCons (xVar 2) (aCons (x2 addD (xSl (xVar 2) (pNo) (pAt (xVar 9))) (xSl (xVar 2) (pAt (x2 addD (xVar 9) (xConst (.int 1)))) (pNo))) (aNil)))))) (E4_law) [9])) X [.sc ns, .fz DS, .fz (rest rs), a3, a4, a5, a6, a7, a8, .no, a10, a11, a12, a13, a14, a15, a16, a17, a18] = X [.sc ns, .fz DS, .fz (rest rs), a3, a4, a5, a6, .fz (.list ((needP rs).map nD)), a8, .no, a10, a11, a12, a13, a14, a15, a16, a17, a18] := by
  have e3 : lenD [rest rs] = some (.int rs.length) := by simp [rest]
  have q := cmp_map (F := nD) (g := gN 9) (ts := tst (x1 isN (xCall 2 F__law_unlike (aCons (xVar 2) (aCons (x2 addD (xSl (xVar 2) (pNo) (pAt (xVar 9))) (xSl (xVar 2) (pAt (x2 addD (xVar 9) (xConst (.int 1)))) (pNo))) (aNil)))))) (el := E4_law) (vs := [9]) (env := [.sc ns, .fz DS, .fz (rest rs), a3, a4, a5, a6, a7, a8, .no, a10, a11, a12, a13, a14, a15, a16, a17, a18]) (b := fun k => (diffP rs (dropAt rs k)).isNone) (f := nD) (List.range rs.length) fun k hk => by
      have d := del_ok (i := 2) (j := 9) (rs := rs) (by omega) k (env := [.sc ns, .fz DS, .fz (rest rs), a3, a4, a5, a6, a7, a8, .fz (nD k), a10, a11, a12, a13, a14, a15, a16, a17, a18]) rfl rfl
      have p := law_unlike_ok h (h.drop k) (Nat.le_trans (dl (n := 6) hl) (by omega))
      have e := isN_oD (diffP rs (dropAt rs k))
      refine ⟨[.sc ns, .fz DS, .fz (rest rs), a3, a4, a5, a6, a7, a8, .fz (nD k), a10, a11, a12, a13, a14, a15, a16, a17, a18], rfl, ?_, fun _ => rfl, rfl⟩
      generalize oD (diffP rs (dropAt rs k)) = O at *
      generalize rest (dropAt rs k) = R2 at *
      generalize rest rs = R at *
      simp only [tst_ap, x1_ap, xCall_ap, aCons_ap, xVar_ap (show ([.sc ns, .fz DS, .fz (R), a3, a4, a5, a6, a7, a8, .fz (nD k), a10, a11, a12, a13, a14, a15, a16, a17, a18] : Ev)[2]? = some (.fz R) from rfl), Out.bind_ok, d, aNil_ap, List.length_cons, List.length_nil, if_true, p, e, liftO_some, asB_bool]
  have ln : ((needP rs).map nD).length ≤ sizeLine := by
    rw [List.length_map]
    refine small_ok (Nat.le_trans (List.length_filter_le _ _) ?_)
    rw [List.length_range]; omega
  have c := comp_ok (it := iArgs rng1 (aCons (xn lenD (aCons (xVar 2) (aNil))) (aNil))) (vs := [9]) (env := [.sc ns, .fz DS, .fz (rest rs), a3, a4, a5, a6, a7, a8, .no, a10, a11, a12, a13, a14, a15, a16, a17, a18]) (e1 := [.sc ns, .fz DS, .fz (rest rs), a3, a4, a5, a6, a7, a8, .no, a10, a11, a12, a13, a14, a15, a16, a17, a18]) (args_ok (ds := [.int rs.length]) (e1 := [.sc ns, .fz DS, .fz (rest rs), a3, a4, a5, a6, a7, a8, .no, a10, a11, a12, a13, a14, a15, a16, a17, a18]) (by generalize rest rs = R at *; simp [e3]) (rng1_nat (by omega))) q ln
  refine seq_nx ?_
  rw [sSet_ap, c]
  rfl

theorem told_ok (h : AllG rs) (hl : rs.length ≤ 6) (X : SF) : sSeq (sIf (tOrF (tst (x2 neD (xn reprD (aCons (xCall 1 F_never_fits (aCons (xVar 2) (aNil))) (aNil))) (xn reprD (aCons (xComp (iArgs rng1 (aCons (xn lenD (aCons (xVar 2) (aNil))) (aNil))) (gN 9) (tst (x2 ninD (xVar 9) (xVar 5))) (E5_law) [9]) (aNil))))) (tst (x2 neD (xn reprD (aCons (xCall 1 F_needless (aCons (xVar 2) (aNil))) (aNil))) (xn reprD (aCons (xVar 7) (aNil)))))) (sRet (xConst (.bool false))) (sNext)) X [.sc ns, .fz DS, .fz (rest rs), a3, a4, .fz (.list ((firsts rs).map nD)), a6, .fz (.list ((needP rs).map nD)), a8, .no, a10, a11, a12, a13, a14, a15, a16, a17, a18] = X [.sc ns, .fz DS, .fz (rest rs), a3, a4, .fz (.list ((firsts rs).map nD)), a6, .fz (.list ((needP rs).map nD)), a8, .no, a10, a11, a12, a13, a14, a15, a16, a17, a18] := by
  have e3 : lenD [rest rs] = some (.int rs.length) := by simp [rest]
  have q := cmp_map (F := nD) (g := gN 9) (ts := tst (x2 ninD (xVar 9) (xVar 5))) (el := E5_law) (vs := [9]) (env := [.sc ns, .fz DS, .fz (rest rs), a3, a4, .fz (.list ((firsts rs).map nD)), a6, .fz (.list ((needP rs).map nD)), a8, .no, a10, a11, a12, a13, a14, a15, a16, a17, a18]) (b := fun k => !hitP rs k) (f := nD) (List.range rs.length) fun k hk => by
      have nn := nin_firsts rs k
      refine ⟨[.sc ns, .fz DS, .fz (rest rs), a3, a4, .fz (.list ((firsts rs).map nD)), a6, .fz (.list ((needP rs).map nD)), a8, .fz (nD k), a10, a11, a12, a13, a14, a15, a16, a17, a18], rfl, ?_, fun _ => rfl, rfl⟩
      generalize PyData.list ((firsts rs).map nD) = T at *
      generalize PyData.list ((needP rs).map nD) = T2 at *
      generalize nD k = K at *
      generalize rest rs = R at *
      simp [nn]
  have lf : ∀ f : Nat → Bool, ((List.range rs.length).filter f).length ≤ 6 := fun f => by
    refine Nat.le_trans (List.length_filter_le _ _) ?_
    rw [List.length_range]; exact hl
  have lb : ∀ f : Nat → Bool, ∀ k ∈ (List.range rs.length).filter f, k ≤ 100 := fun f k hk => by
    have := List.mem_range.mp (List.mem_filter.mp hk).1
    omega
  have c := comp_ok (it := iArgs rng1 (aCons (xn lenD (aCons (xVar 2) (aNil))) (aNil))) (vs := [9]) (env := [.sc ns, .fz DS, .fz (rest rs), a3, a4, .fz (.list ((firsts rs).map nD)), a6, .fz (.list ((needP rs).map nD)), a8, .no, a10, a11, a12, a13, a14, a15, a16, a17, a18]) (e1 := [.sc ns, .fz DS, .fz (rest rs), a3, a4, .fz (.list ((firsts rs).map nD)), a6, .fz (.list ((needP rs).map nD)), a8, .no, a10, a11, a12, a13, a14, a15, a16, a17, a18]) (args_ok (ds := [.int rs.length]) (e1 := [.sc ns, .fz DS, .fz (rest rs), a3, a4, .fz (.list ((firsts rs).map nD)), a6, .fz (.list ((needP rs).map nD)), a8, .no, a10, a11, a12, a13, a14, a15, a16, a17, a18]) (by generalize PyData.list ((firsts rs).map nD) = T; generalize PyData.list ((needP rs).map nD) = T2; generalize rest rs = R at *; simp [e3]) (rng1_nat (by omega))) q (by rw [List.length_map]; exact small_ok (Nat.le_trans (lf _) (by omega)))
  have c' : xComp (iArgs rng1 (aCons (xn lenD (aCons (xVar 2) (aNil))) (aNil))) (gN 9) (tst (x2 ninD (xVar 9) (xVar 5))) (E5_law) [9] [.sc ns, .fz DS, .fz (rest rs), a3, a4, .fz (.list ((firsts rs).map nD)), a6, .fz (.list ((needP rs).map nD)), a8, .no, a10, a11, a12, a13, a14, a15, a16, a17, a18] = .ok (.list ((neverP rs).map nD), [.sc ns, .fz DS, .fz (rest rs), a3, a4, .fz (.list ((firsts rs).map nD)), a6, .fz (.list ((needP rs).map nD)), a8, .no, a10, a11, a12, a13, a14, a15, a16, a17, a18]) := c
  clear c q
  obtain ⟨s1, r1⟩ := nc_nats (l := neverP rs) (by omega) (lb _) (Nat.le_trans (lf _) (by omega))
  obtain ⟨s2, r2⟩ := nc_nats (l := needP rs) (by omega) (lb _) (Nat.le_trans (lf _) (by omega))
  have n1 := never_ok h (by omega)
  have n2 := needless_ok h (by omega)
  exact seq_nx (if_skip (or_no (ne_repr (call1 rfl n1) c' r1) (ne_repr (call1 rfl n2) rfl r2)))

theorem some_ok (h : AllG rs) (hl : rs.length ≤ 6) : ∃ b9 b17, forL (gN 9) Y6_law ((List.range rs.length).map fun i => nD (rs.length - 1 - i)) [.sc ns, .fz DS, .fz (rest rs), a3, a4, a5, a6, a7, .fz (rest rs), a9, a10, a11, a12, a13, a14, a15, a16, a17, a18] = .ok (.nx, [.sc ns, .fz DS, .fz (rest rs), a3, a4, a5, a6, a7, .fz (rest (fewP rs)), b9, a10, a11, a12, a13, a14, a15, a16, b17, a18]) := by
  obtain ⟨e2, h1, _, _, b9, b17, h2⟩ := for_fold (F := fun i => nD (rs.length - 1 - i)) (g := gN 9) (body := Y6_law) (st := fun fd i => fewStep fd (rs.length - 1 - i)) (fun n fd env => AllG fd ∧ fd.length ≤ 6 ∧ ∃ b9 b17, env = [.sc ns, .fz DS, .fz (rest rs), a3, a4, a5, a6, a7, .fz (rest fd), b9, a10, a11, a12, a13, a14, a15, a16, b17, a18]) (List.range rs.length) rs [.sc ns, .fz DS, .fz (rest rs), a3, a4, a5, a6, a7, .fz (rest rs), a9, a10, a11, a12, a13, a14, a15, a16, a17, a18] (fun i hi n fd env he => by
    obtain ⟨hG, hf, b9, b17, rfl⟩ := he
    generalize rs.length - 1 - i = k
    have d := del_ok (i := 8) (j := 9) (rs := fd) (by omega) k (env := [.sc ns, .fz DS, .fz (rest rs), a3, a4, a5, a6, a7, .fz (rest fd), .fz (nD k), a10, a11, a12, a13, a14, a15, a16, b17, a18]) rfl rfl
    have p := law_unlike_ok hG (hG.drop k) (Nat.le_trans (dl (n := 6) hf) (by omega))
    have e := isN_oD (diffP fd (dropAt fd k))
    refine ⟨[.sc ns, .fz DS, .fz (rest rs), a3, a4, a5, a6, a7, .fz (rest fd), .fz (nD k), a10, a11, a12, a13, a14, a15, a16, b17, a18], [.sc ns, .fz DS, .fz (rest rs), a3, a4, a5, a6, a7, .fz (rest (fewStep fd k)), .fz (nD k), a10, a11, a12, a13, a14, a15, a16, .fz (rest (dropAt fd k)), a18], rfl, ?_, ?_, ?_, _, _, rfl⟩
    · unfold Y6_law
      have s1 : sSet 17 (x2 addD (xSl (xVar 8) (pNo) (pAt (xVar 9))) (xSl (xVar 8) (pAt (x2 addD (xVar 9) (xConst (.int 1)))) (pNo))) [.sc ns, .fz DS, .fz (rest rs), a3, a4, a5, a6, a7, .fz (rest fd), .fz (nD k), a10, a11, a12, a13, a14, a15, a16, b17, a18] = .ok (.nx, [.sc ns, .fz DS, .fz (rest rs), a3, a4, a5, a6, a7, .fz (rest fd), .fz (nD k), a10, a11, a12, a13, a14, a15, a16, .fz (rest (dropAt fd k)), a18]) := by rw [sSet_ap, d]; rfl
      rw [seq_nx s1]
      have cl := call2 (i := 8) (j := 17) (env := [.sc ns, .fz DS, .fz (rest rs), a3, a4, a5, a6, a7, .fz (rest fd), .fz (nD k), a10, a11, a12, a13, a14, a15, a16, .fz (rest (dropAt fd k)), a18]) rfl rfl p
      have t1 : tst (x1 isN (xCall 2 F__law_unlike (aCons (xVar 8) (aCons (xVar 17) aNil)))) [.sc ns, .fz DS, .fz (rest rs), a3, a4, a5, a6, a7, .fz (rest fd), .fz (nD k), a10, a11, a12, a13, a14, a15, a16, .fz (rest (dropAt fd k)), a18] = .ok ((diffP fd (dropAt fd k)).isNone, [.sc ns, .fz DS, .fz (rest rs), a3, a4, a5, a6, a7, .fz (rest fd), .fz (nD k), a10, a11, a12, a13, a14, a15, a16, .fz (rest (dropAt fd k)), a18]) := by
        rw [tst_ap, x1_ap, cl]
        simp only [Out.bind_ok, e, liftO_some, asB_bool]
      rw [sIf_ap, t1]
      cases hb : (diffP fd (dropAt fd k)).isNone with
      | true => rw [show fewStep fd k = dropAt fd k by unfold fewStep; rw [hb]; rfl]; rfl
      | false => rw [show fewStep fd k = fd by unfold fewStep; rw [hb]; rfl]; rfl
    · unfold fewStep; split
      · exact hG.drop k
      · exact hG
    · unfold fewStep; split
      · exact Nat.le_trans (drop_len _ _) hf
      · exact hf) ⟨h, hl, _, _, rfl⟩
  exact ⟨b9, b17, by rw [h1, h2]; rfl⟩

theorem notN_no {f : XF} {env : Ev} (h : f env = .ok (.none, env)) : tst (x1 notN f) env = .ok (false, env) := by
  rw [tst_ap, x1_ap, h]; rfl
theorem fewer_same (h : AllG rs) (hl : rs.length ≤ 6) (X : SF) : sSeq (sIf (tOrF (tst (x2 neD (xn reprD (aCons (xCall 1 F_fewer (aCons (xVar 2) (aNil))) (aNil))) (xn reprD (aCons (xVar 8) (aNil))))) (tOrF (tst (x1 notN (xCall 2 F__law_unlike (aCons (xVar 2) (aCons (xVar 8) (aNil)))))) (tst (x1 notN (xCall 2 F_unlike (aCons (xVar 2) (aCons (xVar 8) (aNil)))))))) (sRet (xConst (.bool false))) (sNext)) X [.sc ns, .fz DS, .fz (rest rs), a3, a4, a5, a6, a7, .fz (rest (fewP rs)), a9, a10, a11, a12, a13, a14, a15, a16, a17, a18] = X [.sc ns, .fz DS, .fz (rest rs), a3, a4, a5, a6, a7, .fz (rest (fewP rs)), a9, a10, a11, a12, a13, a14, a15, a16, a17, a18] := by
  obtain ⟨f1, f2, f3⟩ := fewP_ok h
  have n1 := fewer_ok h (by omega)
  have ll : (rs ++ fewP rs).length ≤ 12 := by rw [List.length_append]; omega
  have n2 := law_unlike_ok h f1 (by omega)
  have n3 := unlike_ok h f1 (by omega)
  rw [f3] at n2 n3
  obtain ⟨s, r1⟩ := rules_repr f1 (by omega)
  exact seq_nx (if_skip (or_no (ne_repr (call1 rfl n1) rfl r1) (or_no (notN_no (call2 rfl rfl n2)) (notN_no (call2 rfl rfl n3)))))

theorem other_same {ot : List Ru} {s0 : Str} (h : AllG rs) (hl : rs.length ≤ 6) (k : AllG ot) (kl : ot.length ≤ 6) (hs : reprD [rest rs] = some (.str s0)) (X : SF) : sSeq (sIf (tOrF (tst (x2 neD (xn reprD (aCons (xCall 2 F_unlike (aCons (xVar 2) (aCons (xVar 10) (aNil)))) (aNil))) (xn reprD (aCons (xCall 2 F__law_unlike (aCons (xVar 2) (aCons (xVar 10) (aNil)))) (aNil))))) (tst (x2 neD (xn reprD (aCons (xVar 2) (aNil))) (xVar 3)))) (sRet (xConst (.bool false))) (sNext)) X [.sc ns, .fz DS, .fz (rest rs), .fz (.str s0), a4, a5, a6, a7, a8, a9, .fz (rest ot), a11, a12, a13, a14, a15, a16, a17, a18] = X [.sc ns, .fz DS, .fz (rest rs), .fz (.str s0), a4, a5, a6, a7, a8, a9, .fz (rest ot), a11, a12, a13, a14, a15, a16, a17, a18] := by
  have ll : (rs ++ ot).length ≤ 12 := by rw [List.length_append]; omega
  have n2 := law_unlike_ok h k (by omega)
  have n3 := unlike_ok h k (by omega)
  obtain ⟨s, r1⟩ := oD_repr h k
  refine seq_nx (if_skip (or_no (ne_repr (call2 rfl rfl n3) (call2 rfl rfl n2) r1) ?_))
  generalize rest ot = O
  generalize rest rs = R at *
  simp [hs]

end
end K03
set_option Elab.async false
set_option linter.all false
set_option maxRecDepth 100000
namespace K03
open PySem DP
def bads : List D := [ru "lets" (tupI [0, 0]) (tupI [0, 0]) 0 255, ru "let" (tupI [1, 0]) (tupI [0, 0]) 0 255, ru "let" (tupI [0, 0]) (tupI [0, 17]) 0 255, ru "let" (tupI [0, 0]) (tupI [0, 0]) 5 4, ru "bar" (tupI [0, 0]) (tupI [0, 0]) 0 256]
theorem bads_bad {b : D} (h : b ∈ bads) : F_is_rule [b] = .ok (.bool false) := by
  unfold bads at h
  simp only [List.mem_cons, List.not_mem_nil, or_false] at h
  rcases h with rfl | rfl | rfl | rfl | rfl
  · exact bad_w in_lets
  · exact bad_p in_let pf10
  · exact bad_q in_let pf00 pf17
  · exact bad_m in_let pf00 pf00 (by decide) (by decide)
  · exact bad_m in_bar pf00 pf00 (by decide) (by decide)
theorem ne_rule : neD (.tuple [.str "rule", .int 1]) (.tuple [.str "rule", .int 1]) = some (.bool false) := ne_nc (by decide) (by decide)
theorem ne_many : neD (.tuple [.str "many", .int 21]) (.tuple [.str "many", .int 21]) = some (.bool false) := ne_nc (by decide) (by decide)
section
variable {ns : List Int} {DS : D} {rs : List Ru} {a3 a4 a5 a6 a7 a8 a9 a10 a11 a12 a13 a14 a15 a16 a17 a18 : Sl}
theorem y7f_ok {b : D} (h : F_is_rule [b] = .ok (.bool false)) {way : Int} (h0 : 0 ≤ way) (h6 : way < 6) : Y7_law [.sc ns, .fz DS, .fz (rest rs), a3, a4, a5, a6, a7, a8, a9, a10, .fz gd, .fz (.int way), a13, a14, a15, a16, a17, .fz b] = .ok (.nx, [.sc ns, .fz DS, .fz (rest rs), a3, a4, a5, a6, a7, a8, a9, a10, .fz gd, .fz (.int way), a13, a14, a15, a16, a17, .fz b]) := by
  have f := fault_rule (check_bad h) h0 h6
  have z2 : (2 : Nat) ≤ sizeLine := small_ok (by omega)
  have nr := ne_rule
  generalize gd = G at *
  generalize rest rs = R at *
  unfold Y7_law
  simp [f, z2, nr]

theorem y8_ok {way : Int} (h0 : 0 ≤ way) (h6 : way < 6) : ∃ b18, Y8_law [.sc ns, .fz DS, .fz (rest rs), a3, a4, a5, a6, a7, a8, a9, a10, .fz gd, .fz (.int way), a13, a14, a15, a16, a17, a18] = .ok (.nx, [.sc ns, .fz DS, .fz (rest rs), a3, a4, a5, a6, a7, a8, a9, a10, .fz gd, .fz (.int way), a13, a14, a15, a16, a17, b18]) := by
  obtain ⟨e2, h1, b18, h2⟩ := for_fold (F := fun b : D => b) (g := gN 18) (body := Y7_law) (st := fun (u : Unit) _ => u) (fun n _ env => ∃ b18, env = [.sc ns, .fz DS, .fz (rest rs), a3, a4, a5, a6, a7, a8, a9, a10, .fz gd, .fz (.int way), a13, a14, a15, a16, a17, b18]) bads () [.sc ns, .fz DS, .fz (rest rs), a3, a4, a5, a6, a7, a8, a9, a10, .fz gd, .fz (.int way), a13, a14, a15, a16, a17, a18] (fun b hb n _ env he => by
    obtain ⟨b18, rfl⟩ := he
    exact ⟨_, _, rfl, y7f_ok (bads_bad hb) h0 h6, _, rfl⟩) ⟨_, rfl⟩
  rw [List.map_id'] at h1
  have z1 : (1 : Nat) ≤ sizeLine := small_ok (by omega)
  have z2 : (2 : Nat) ≤ sizeLine := small_ok (by omega)
  have z5 : (5 : Nat) ≤ sizeLine := small_ok (by omega)
  have ml : mulD (.list [gd]) (.int 21) = some (.list (List.replicate 21 [gd]).flatten) := by
    have z : ([gd] : List D).length * (21 : Int).toNat ≤ sizeLine := small_ok (by decide)
    have c : (s64 21 && decide (-(2 ^ 63) ≤ (21 : Int)) && decide ((21 : Int) < 2 ^ 63) && decide (([gd] : List D).length * (21 : Int).toNat ≤ sizeLine)) = true := by
      rw [decide_eq_true z]; rfl
    have e : mulD (.list [gd]) (.int 21) = (if (s64 21 && decide (-(2 ^ 63) ≤ (21 : Int)) && decide ((21 : Int) < 2 ^ 63) && decide (([gd] : List D).length * (21 : Int).toNat ≤ sizeLine)) = true then some (.list (List.replicate (21 : Int).toNat [gd]).flatten) else none) := rfl
    rw [e, if_pos c]
    rfl
  have f := fault_many (check_many (ds := (List.replicate 21 [gd]).flatten) (by simp)) h0 h6
  have nm := ne_many
  refine ⟨b18, ?_⟩
  unfold Y8_law
  have s1 : (sIf (tst (x2 neD (xCall 2 F__law_fault (aCons (xVar 12) (aCons (x2 mulD (xLst (aCons (xVar 11) (aNil))) (xConst (.int 21))) (aNil)))) (xTup (aCons (xConst (.str "many")) (aCons (xConst (.int 21)) (aNil)))))) (sRet (xConst (.bool false))) (sNext)) [.sc ns, .fz DS, .fz (rest rs), a3, a4, a5, a6, a7, a8, a9, a10, .fz gd, .fz (.int way), a13, a14, a15, a16, a17, a18] = .ok (.nx, [.sc ns, .fz DS, .fz (rest rs), a3, a4, a5, a6, a7, a8, a9, a10, .fz gd, .fz (.int way), a13, a14, a15, a16, a17, a18]) := by
    generalize PyData.list (List.replicate 21 [gd]).flatten = L at *
    generalize gd = G at *
    generalize rest rs = R at *
    simp [z1, z2, ml, f, nm]
  rw [seq_nx s1]
  have s2 : (iSeq (xLst (aCons (xTup (aCons (xConst (.str "lets")) (aCons (xTup (aCons (xConst (.int 0)) (aCons (xConst (.int 0)) (aNil)))) (aCons (xTup (aCons (xConst (.int 0)) (aCons (xConst (.int 0)) (aNil)))) (aCons (xConst (.int 0)) (aCons (xConst (.int 255)) (aNil))))))) (aCons (xTup (aCons (xConst (.str "let")) (aCons (xTup (aCons (xConst (.int 1)) (aCons (xConst (.int 0)) (aNil)))) (aCons (xTup (aCons (xConst (.int 0)) (aCons (xConst (.int 0)) (aNil)))) (aCons (xConst (.int 0)) (aCons (xConst (.int 255)) (aNil))))))) (aCons (xTup (aCons (xConst (.str "let")) (aCons (xTup (aCons (xConst (.int 0)) (aCons (xConst (.int 0)) (aNil)))) (aCons (xTup (aCons (xConst (.int 0)) (aCons (xConst (.int 17)) (aNil)))) (aCons (xConst (.int 0)) (aCons (xConst (.int 255)) (aNil))))))) (aCons (xTup (aCons (xConst (.str "let")) (aCons (xTup (aCons (xConst (.int 0)) (aCons (xConst (.int 0)) (aNil)))) (aCons (xTup (aCons (xConst (.int 0)) (aCons (xConst (.int 0)) (aNil)))) (aCons (xConst (.int 5)) (aCons (xConst (.int 4)) (aNil))))))) (aCons (xTup (aCons (xConst (.str "bar")) (aCons (xTup (aCons (xConst (.int 0)) (aCons (xConst (.int 0)) (aNil)))) (aCons (xTup (aCons (xConst (.int 0)) (aCons (xConst (.int 0)) (aNil)))) (aCons (xConst (.int 0)) (aCons (xConst (.int 256)) (aNil))))))) (aNil)))))))) [.sc ns, .fz DS, .fz (rest rs), a3, a4, a5, a6, a7, a8, a9, a10, .fz gd, .fz (.int way), a13, a14, a15, a16, a17, a18] = .ok (bads, [.sc ns, .fz DS, .fz (rest rs), a3, a4, a5, a6, a7, a8, a9, a10, .fz gd, .fz (.int way), a13, a14, a15, a16, a17, a18]) := by
    generalize gd = G at *
    generalize rest rs = R at *
    simp [z2, z5, seqD, bads]
  rw [sFor_ap, s2]
  simp only [Out.bind_ok]
  rw [h1, h2]
theorem ways_ok : ∃ b12 b18, forL (gN 12) Y8_law ((List.range 6).map fun (i : Nat) => PyData.int (i : Int)) [.sc ns, .fz DS, .fz (rest rs), a3, a4, a5, a6, a7, a8, a9, a10, .fz gd, a12, a13, a14, a15, a16, a17, a18] = .ok (.nx, [.sc ns, .fz DS, .fz (rest rs), a3, a4, a5, a6, a7, a8, a9, a10, .fz gd, b12, a13, a14, a15, a16, a17, b18]) := by
  obtain ⟨e2, h1, b12, b18, h2⟩ := for_fold (F := fun (i : Nat) => PyData.int (i : Int)) (g := gN 12) (body := Y8_law) (st := fun (u : Unit) _ => u) (fun n _ env => ∃ b12 b18, env = [.sc ns, .fz DS, .fz (rest rs), a3, a4, a5, a6, a7, a8, a9, a10, .fz gd, b12, a13, a14, a15, a16, a17, b18]) (List.range 6) () [.sc ns, .fz DS, .fz (rest rs), a3, a4, a5, a6, a7, a8, a9, a10, .fz gd, a12, a13, a14, a15, a16, a17, a18] (fun i hi n _ env he => by
    obtain ⟨b12, b18, rfl⟩ := he
    have := List.mem_range.mp hi
    obtain ⟨c18, q⟩ := y8_ok (ns := ns) (DS := DS) (rs := rs) (a3 := a3) (a4 := a4) (a5 := a5) (a6 := a6) (a7 := a7) (a8 := a8) (a9 := a9) (a10 := a10) (a13 := a13) (a14 := a14) (a15 := a15) (a16 := a16) (a17 := a17) (a18 := b18) (way := (i : Int)) (by omega) (by omega)
    exact ⟨_, _, rfl, q, _, _, rfl⟩) ⟨_, _, rfl⟩
  exact ⟨b12, b18, by rw [h1, h2]⟩

def rb : Ru := ⟨"bar", 0, 0, 0, 0, 0, 255⟩
theorem rb_ok : GR rb := ⟨.inr rfl, ⟨by decide, by decide, by decide, by decide, by decide⟩, ⟨by decide, by decide, by decide, by decide, by decide⟩, by decide, by decide, by decide⟩
theorem last_ok (env : Ev) : (sRet (xBool (tAndF (tst (x2 isBD (xCall 4 F_lets (aCons (xLst (aNil)) (aCons (xConst (.int 5)) (aCons (xConst (.int 5)) (aCons (xConst (.int 5)) (aNil)))))) (xConst (.bool true)))) (tst (x2 isBD (xCall 4 F_lets (aCons (xLst (aCons (xTup (aCons (xConst (.str "bar")) (aCons (xTup (aCons (xConst (.int 0)) (aCons (xConst (.int 0)) (aNil)))) (aCons (xTup (aCons (xConst (.int 0)) (aCons (xConst (.int 0)) (aNil)))) (aCons (xConst (.int 0)) (aCons (xConst (.int 255)) (aNil))))))) (aNil))) (aCons (xConst (.int 5)) (aCons (xConst (.int 5)) (aCons (xConst (.int 5)) (aNil)))))) (xConst (.bool false))))))) env = .ok (.rt (.bool true), env) := by
  have l1 := lets_ok (rs := []) (fun _ h => nomatch h) (by decide) 5 5 5
  have l2 := lets_ok (rs := [rb]) (fun r h => by rw [List.mem_singleton.mp h]; exact rb_ok) (by decide) 5 5 5
  rw [show passP [] 5 5 5 = true from rfl] at l1
  rw [show passP [rb] 5 5 5 = false by decide] at l2
  have l1 : F_lets [.list [], .int 5, .int 5, .int 5] = .ok (.bool true) := l1
  have l2 : F_lets [.list [.tuple [.str "bar", .tuple [.int 0, .int 0], .tuple [.int 0, .int 0], .int 0, .int 255]], .int 5, .int 5, .int 5] = .ok (.bool false) := l2
  have z0 : (0 : Nat) ≤ sizeLine := Nat.zero_le _
  have z1 : (1 : Nat) ≤ sizeLine := small_ok (by omega)
  have z2 : (2 : Nat) ≤ sizeLine := small_ok (by omega)
  have z5 : (5 : Nat) ≤ sizeLine := small_ok (by omega)
  simp [l1, l2, z0, z1, z2, z5]
end
theorem good : ∀ ns : List Int, ns.length ≤ 63 → F_law ns = .ok (.bool true) := fun ns hn => by
  obtain ⟨ds, d1, hd⟩ := draws_ok hn
  obtain ⟨rs, r1, hG, hl⟩ := rules_ok hd 10 (most := 6) (by decide) (by decide)
  obtain ⟨ot, o1, hK, kl⟩ := rules_ok hd 110 (most := 5) (by decide) (by decide)
  obtain ⟨s0, hs⟩ := rules_repr hG (by omega)
  have hc := law_corners_ok hG (by omega)
  have ll : listD [rest rs] = some (rest rs) := rfl
  have e3 : lenD [rest rs] = some (.int rs.length) := by simp [rest]
  have z0 : (0 : Nat) ≤ sizeLine := Nat.zero_le _
  have z2 : (2 : Nat) ≤ sizeLine := small_ok (by omega)
  have z5 : (5 : Nat) ≤ sizeLine := small_ok (by omega)
  obtain ⟨DS, hDS⟩ : ∃ DS, DS = PyData.list (ds.map .int) := ⟨_, rfl⟩
  obtain ⟨CS, hCS⟩ : ∃ CS, CS = PyData.list ((trip rs).map dT) := ⟨_, rfl⟩
  have sq : seqD CS = some ((trip rs).map dT) := by rw [hCS]; rfl
  rw [← hCS] at hc
  rw [← hDS] at d1 r1 o1

  have t0 : (sSet 1 (xCallS 0 F__law_draws)) [.sc ns, .no, .no, .no, .no, .no, .no, .no, .no, .no, .no, .no, .no, .no, .no, .no, .no, .no, .no] = .ok (.nx, [.sc ns, .fz DS, .no, .no, .no, .no, .no, .no, .no, .no, .no, .no, .no, .no, .no, .no, .no, .no, .no]) := by simp [d1]
  have t1 : (sSet 2 (xCall 3 F__law_rules (aCons (xVar 1) (aCons (xConst (.int 10)) (aCons (xConst (.int 6)) (aNil)))))) [.sc ns, .fz DS, .no, .no, .no, .no, .no, .no, .no, .no, .no, .no, .no, .no, .no, .no, .no, .no, .no] = .ok (.nx, [.sc ns, .fz DS, .fz (rest rs), .no, .no, .no, .no, .no, .no, .no, .no, .no, .no, .no, .no, .no, .no, .no, .no]) := by
    generalize rest rs = R at *
    simp [r1]
  have t2 : (sSet 3 (xn reprD (aCons (xVar 2) (aNil)))) [.sc ns, .fz DS, .fz (rest rs), .no, .no, .no, .no, .no, .no, .no, .no, .no, .no, .no, .no, .no, .no, .no, .no] = .ok (.nx, [.sc ns, .fz DS, .fz (rest rs), .fz (.str s0), .no, .no, .no, .no, .no, .no, .no, .no, .no, .no, .no, .no, .no, .no, .no]) := by
    generalize rest rs = R at *
    simp [hs]
  have t3 : (sSet 4 (xCall 1 F__law_corners (aCons (xVar 2) (aNil)))) [.sc ns, .fz DS, .fz (rest rs), .fz (.str s0), .no, .no, .no, .no, .no, .no, .no, .no, .no, .no, .no, .no, .no, .no, .no] = .ok (.nx, [.sc ns, .fz DS, .fz (rest rs), .fz (.str s0), .fz CS, .no, .no, .no, .no, .no, .no, .no, .no, .no, .no, .no, .no, .no, .no]) := by
    generalize rest rs = R at *
    simp [hc]
  have t4 : (sSet 5 (xLst (aNil))) [.sc ns, .fz DS, .fz (rest rs), .fz (.str s0), .fz CS, .no, .no, .no, .no, .no, .no, .no, .no, .no, .no, .no, .no, .no, .no] = .ok (.nx, [.sc ns, .fz DS, .fz (rest rs), .fz (.str s0), .fz CS, .fz (.list []), .no, .no, .no, .no, .no, .no, .no, .no, .no, .no, .no, .no, .no]) := by
    generalize rest rs = R at *
    simp [z0]
  obtain ⟨b11, b13, b14, b15, t5⟩ := cornersL_ok (ns := ns) (DS := DS) (rs := rs) (a3 := .fz (.str s0)) (a4 := .fz CS) (a6 := .no) (a7 := .no) (a8 := .no) (a10 := .no) (a11 := .no) (a12 := .no) (a13 := .no) (a14 := .no) (a15 := .no) (a16 := .no) (a17 := .no) (a18 := .no) hG hl
  obtain ⟨b6, b16, t6⟩ := packets_ok (ns := ns) (rs := rs) (a3 := .fz (.str s0)) (a4 := .fz CS) (a5 := .fz (.list ((firsts rs).map nD))) (a6 := .no) (a7 := .no) (a8 := .no) (a9 := .no) (a10 := .no) (a11 := b11) (a12 := .no) (a13 := b13) (a14 := b14) (a15 := b15) (a16 := .no) (a17 := .no) (a18 := .no) hd hG hl
  rw [← hDS] at t6
  have t9 : (sSet 8 (xn listD (aCons (xVar 2) (aNil)))) [.sc ns, .fz DS, .fz (rest rs), .fz (.str s0), .fz CS, .fz (.list ((firsts rs).map nD)), b6, .fz (.list ((needP rs).map nD)), .no, .no, .no, b11, .no, b13, b14, b15, b16, .no, .no] = .ok (.nx, [.sc ns, .fz DS, .fz (rest rs), .fz (.str s0), .fz CS, .fz (.list ((firsts rs).map nD)), b6, .fz (.list ((needP rs).map nD)), .fz (rest rs), .no, .no, b11, .no, b13, b14, b15, b16, .no, .no]) := by
    generalize PyData.list ((firsts rs).map nD) = T1
    generalize PyData.list ((needP rs).map nD) = T2
    generalize rest rs = R at *
    simp [ll]
  obtain ⟨b9, b17, t10⟩ := some_ok (ns := ns) (DS := DS) (rs := rs) (a3 := .fz (.str s0)) (a4 := .fz CS) (a5 := .fz (.list ((firsts rs).map nD))) (a6 := b6) (a7 := .fz (.list ((needP rs).map nD))) (a9 := .no) (a10 := .no) (a11 := b11) (a12 := .no) (a13 := b13) (a14 := b14) (a15 := b15) (a16 := b16) (a17 := .no) (a18 := .no) hG hl
  have t12 : (sSet 10 (xCall 3 F__law_rules (aCons (xVar 1) (aCons (xConst (.int 110)) (aCons (xConst (.int 5)) (aNil)))))) [.sc ns, .fz DS, .fz (rest rs), .fz (.str s0), .fz CS, .fz (.list ((firsts rs).map nD)), b6, .fz (.list ((needP rs).map nD)), .fz (rest (fewP rs)), b9, .no, b11, .no, b13, b14, b15, b16, b17, .no] = .ok (.nx, [.sc ns, .fz DS, .fz (rest rs), .fz (.str s0), .fz CS, .fz (.list ((firsts rs).map nD)), b6, .fz (.list ((needP rs).map nD)), .fz (rest (fewP rs)), b9, .fz (rest ot), b11, .no, b13, b14, b15, b16, b17, .no]) := by
    generalize PyData.list ((firsts rs).map nD) = T1
    generalize PyData.list ((needP rs).map nD) = T2
    generalize rest (fewP rs) = R2
    generalize rest ot = OT at *
    generalize rest rs = R at *
    simp [o1]
  have t14 : (sSet 11 (xTup (aCons (xConst (.str "let")) (aCons (xTup (aCons (xConst (.int 0)) (aCons (xConst (.int 0)) (aNil)))) (aCons (xTup (aCons (xConst (.int 0)) (aCons (xConst (.int 0)) (aNil)))) (aCons (xConst (.int 0)) (aCons (xConst (.int 255)) (aNil)))))))) [.sc ns, .fz DS, .fz (rest rs), .fz (.str s0), .fz CS, .fz (.list ((firsts rs).map nD)), b6, .fz (.list ((needP rs).map nD)), .fz (rest (fewP rs)), b9, .fz (rest ot), b11, .no, b13, b14, b15, b16, b17, .no] = .ok (.nx, [.sc ns, .fz DS, .fz (rest rs), .fz (.str s0), .fz CS, .fz (.list ((firsts rs).map nD)), b6, .fz (.list ((needP rs).map nD)), .fz (rest (fewP rs)), b9, .fz (rest ot), .fz gd, .no, b13, b14, b15, b16, b17, .no]) := by
    generalize PyData.list ((firsts rs).map nD) = T1
    generalize PyData.list ((needP rs).map nD) = T2
    generalize rest (fewP rs) = R2
    generalize rest ot = OT at *
    generalize rest rs = R at *
    simp [z2, z5, gd]
  obtain ⟨b12, b18, t15⟩ := ways_ok (ns := ns) (DS := DS) (rs := rs) (a3 := .fz (.str s0)) (a4 := .fz CS) (a5 := .fz (.list ((firsts rs).map nD))) (a6 := b6) (a7 := .fz (.list ((needP rs).map nD))) (a8 := .fz (rest (fewP rs))) (a9 := b9) (a10 := .fz (rest ot)) (a12 := .no) (a13 := b13) (a14 := b14) (a15 := b15) (a16 := b16) (a17 := b17) (a18 := .no)
  have r4 : rng1 [.int 4] = some ((List.range 4).map fun (i : Nat) => PyData.int (i : Int)) := rng1_nat (by decide)
  have r6 : rng1 [.int 6] = some ((List.range 6).map fun (i : Nat) => PyData.int (i : Int)) := rng1_nat (by decide)
  have hr : rng3 [.int ((rs.length : Int) - 1), .int (-1), .int (-1)] = some ((List.range rs.length).map fun i => nD (rs.length - 1 - i)) := rng3_down (by omega)
  have ar : (aCons (x2 subD (xn lenD (aCons (xVar 2) (aNil))) (xConst (.int 1))) (aCons (x1 negD (xConst (.int 1))) (aCons (x1 negD (xConst (.int 1))) (aNil)))) [.sc ns, .fz DS, .fz (rest rs), .fz (.str s0), .fz CS, .fz (.list ((firsts rs).map nD)), b6, .fz (.list ((needP rs).map nD)), .fz (rest rs), .no, .no, b11, .no, b13, b14, b15, b16, .no, .no] = .ok ([.int ((rs.length : Int) - 1), .int (-1), .int (-1)], [.sc ns, .fz DS, .fz (rest rs), .fz (.str s0), .fz CS, .fz (.list ((firsts rs).map nD)), b6, .fz (.list ((needP rs).map nD)), .fz (rest rs), .no, .no, b11, .no, b13, b14, b15, b16, .no, .no]) := by
    generalize PyData.list ((firsts rs).map nD) = T1
    generalize PyData.list ((needP rs).map nD) = T2
    generalize rest rs = R at *
    simp [e3]
  refine runS_rt (e := [.sc ns, .fz DS, .fz (rest rs), .fz (.str s0), .fz CS, .fz (.list ((firsts rs).map nD)), b6, .fz (.list ((needP rs).map nD)), .fz (rest (fewP rs)), b9, .fz (rest ot), .fz gd, b12, b13, b14, b15, b16, b17, b18]) ?_
  show B_law [.sc ns, .no, .no, .no, .no, .no, .no, .no, .no, .no, .no, .no, .no, .no, .no, .no, .no, .no, .no] = _
  unfold B_law
  rw [seq_nx t0, seq_nx t1, seq_nx t2, seq_nx t3, seq_nx t4, seq_nx ((for_seq (f := xVar 4) (d := CS) rfl sq).trans t5), seq_nx ((for_args (l := aCons (xConst (.int 4)) aNil) (ds := [.int 4]) rfl r4).trans t6), free_ok hG hl, told_ok hG hl, seq_nx t9, seq_nx ((for_args ar hr).trans t10), fewer_same hG hl, seq_nx t12, other_same hG hl hK kl hs, seq_nx t14, seq_nx ((for_args (l := aCons (xConst (.int 6)) aNil) (ds := [.int 6]) rfl r6).trans t15)]
  exact last_ok _
end K03
open PySem PySem.W PyProof.Rows
set_option maxHeartbeats 0 in
theorem PySem.Challenge.cw_waysflooded_k03_whole_rows_of_rules_holds : PySem.Challenge.rw_waysflooded_k03_whole_rows_of_rules.Holds := by
  w_on; o_law; k_head; (case hw => w_witness2)
  k_fill
  refine DP.walk_law (l := PySem.Challenge.rw_waysflooded_k03_whole_rows_of_rules) (n := 63) (k := 9) (x := "script") (F := K03.F_law) rfl (by decide) rfl ⟨rfl, by decide, by decide⟩ (fun w h Y => PySem.W.kIn_of Y) ?F K03.good
  case F =>
    intro w mg fa h KX G hmg
    refine' K03.all_mk KX G hmg ?a_NetError ?a_TooMany ?a_BadRule ?xL_NetError ?sa_NetError ?ga_NetError ?gg_NetError ?nb_NetError ?iC_NetError ?kC_NetError ?eC_NetError ?vC_NetError ?tC_NetError ?hC_NetError ?mB_NetError ?su_NetError ?xL_TooMany ?sa_TooMany ?ga_TooMany ?gg_TooMany ?nb_TooMany ?iC_TooMany ?kC_TooMany ?eC_TooMany ?vC_TooMany ?tC_TooMany ?hC_TooMany ?mB_TooMany ?su_TooMany ?xL_BadRule ?sa_BadRule ?ga_BadRule ?gg_BadRule ?nb_BadRule ?iC_BadRule ?kC_BadRule ?eC_BadRule ?vC_BadRule ?tC_BadRule ?hC_BadRule ?mB_BadRule ?su_BadRule ?el ?ec ?eh ?ev ?ef ?ecl ?ecB ?esup ?etp ?etop ?etI ?ex_TooMany_TooMany ?ex_BadRule_TooMany ?ex_BadRule_BadRule ?ex_TooMany_BadRule ?a0 ?l0 ?c0 ?k0 ?a1 ?l1 ?c1 ?k1 ?a2 ?l2 ?c2 ?k2 ?a3 ?l3 ?c3 ?k3 ?a4 ?l4 ?c4 ?k4 ?a5 ?l5 ?c5 ?k5 ?a6 ?l6 ?c6 ?k6 ?a7 ?l7 ?c7 ?k7 ?a8 ?l8 ?c8 ?k8 ?a9 ?l9 ?c9 ?k9 ?a10 ?l10 ?c10 ?k10 ?a11 ?l11 ?c11 ?k11 ?a12 ?l12 ?c12 ?k12 ?a13 ?l13 ?c13 ?k13 ?a14 ?l14 ?c14 ?k14 ?a15 ?l15 ?c15 ?k15 ?a16 ?l16 ?c16 ?k16 ?a17 ?l17 ?c17 ?k17 ?a18 ?l18 ?c18 ?k18 ?a19 ?l19 ?c19 ?k19 ?a20 ?l20 ?c20 ?k20 ?a21 ?l21 ?c21 ?k21 ?a22 ?l22 ?c22 ?k22 ?a23 ?l23 ?c23 ?k23 ?a24 ?l24 ?c24 ?k24 ?a25 ?l25 ?c25 ?k25 ?a26 ?l26 ?c26 ?k26 ?a27 ?l27 ?c27 ?k27 ?z_range ?z_sorted ?z_set ?z_len ?z_min ?z_abs ?z_int ?z_enumerate ?z_list ?z_repr ?m_BITS ?m_ADDRESSES ?m_WORDS ?ml_WORDS ?m_MARKS ?m_MOST_RULES
    (case a_NetError => k_is)
    (case a_TooMany => k_is)
    (case a_BadRule => k_is)
    (case xL_NetError => k_is)
    (case sa_NetError => k_is)
    (case ga_NetError => k_is)
    (case gg_NetError => k_is)
    (case nb_NetError => k_is)
    (case iC_NetError => k_is)
    (case kC_NetError => k_is)
    (case eC_NetError => k_is)
    (case vC_NetError => k_is)
    (case tC_NetError => k_is)
    (case hC_NetError => k_is)
    (case mB_NetError => first | k_is | ks_is | kernel_rfl | rfl)
    (case su_NetError => first | k_is | ks_is | kernel_rfl | rfl)
    (case xL_TooMany => k_is)
    (case sa_TooMany => k_is)
    (case ga_TooMany => k_is)
    (case gg_TooMany => k_is)
    (case nb_TooMany => k_is)
    (case iC_TooMany => k_is)
    (case kC_TooMany => k_is)
    (case eC_TooMany => k_is)
    (case vC_TooMany => k_is)
    (case tC_TooMany => k_is)
    (case hC_TooMany => k_is)
    (case mB_TooMany => first | k_is | ks_is | kernel_rfl | rfl)
    (case su_TooMany => first | k_is | ks_is | kernel_rfl | rfl)
    (case xL_BadRule => k_is)
    (case sa_BadRule => k_is)
    (case ga_BadRule => k_is)
    (case gg_BadRule => k_is)
    (case nb_BadRule => k_is)
    (case iC_BadRule => k_is)
    (case kC_BadRule => k_is)
    (case eC_BadRule => k_is)
    (case vC_BadRule => k_is)
    (case tC_BadRule => k_is)
    (case hC_BadRule => k_is)
    (case mB_BadRule => first | k_is | ks_is | kernel_rfl | rfl)
    (case su_BadRule => first | k_is | ks_is | kernel_rfl | rfl)
    (case el => k_is)
    (case ec => k_is)
    (case eh => k_is)
    (case ev => rfl)
    (case ef => first | rfl | decide +kernel)
    (case ecl => k_is)
    (case ecB => k_is)
    (case esup => k_is)
    (case etp => k_is)
    (case etop => first | rfl | decide +kernel)
    (case etI => k_is)
    (case ex_TooMany_TooMany => first | k_is | kernel_rfl | rfl)
    (case ex_BadRule_TooMany => first | k_is | kernel_rfl | rfl)
    (case ex_BadRule_BadRule => first | k_is | kernel_rfl | rfl)
    (case ex_TooMany_BadRule => first | k_is | kernel_rfl | rfl)
    (case a0 => k_is)
    (case l0 => k_is)
    (case c0 => k_is)
    (case k0 => k_is)
    (case a1 => k_is)
    (case l1 => k_is)
    (case c1 => k_is)
    (case k1 => k_is)
    (case a2 => k_is)
    (case l2 => k_is)
    (case c2 => k_is)
    (case k2 => k_is)
    (case a3 => k_is)
    (case l3 => k_is)
    (case c3 => k_is)
    (case k3 => k_is)
    (case a4 => k_is)
    (case l4 => k_is)
    (case c4 => k_is)
    (case k4 => k_is)
    (case a5 => k_is)
    (case l5 => k_is)
    (case c5 => k_is)
    (case k5 => k_is)
    (case a6 => k_is)
    (case l6 => k_is)
    (case c6 => k_is)
    (case k6 => k_is)
    (case a7 => k_is)
    (case l7 => k_is)
    (case c7 => k_is)
    (case k7 => k_is)
    (case a8 => k_is)
    (case l8 => k_is)
    (case c8 => k_is)
    (case k8 => k_is)
    (case a9 => k_is)
    (case l9 => k_is)
    (case c9 => k_is)
    (case k9 => k_is)
    (case a10 => k_is)
    (case l10 => k_is)
    (case c10 => k_is)
    (case k10 => k_is)
    (case a11 => k_is)
    (case l11 => k_is)
    (case c11 => k_is)
    (case k11 => k_is)
    (case a12 => k_is)
    (case l12 => k_is)
    (case c12 => k_is)
    (case k12 => k_is)
    (case a13 => k_is)
    (case l13 => k_is)
    (case c13 => k_is)
    (case k13 => k_is)
    (case a14 => k_is)
    (case l14 => k_is)
    (case c14 => k_is)
    (case k14 => k_is)
    (case a15 => k_is)
    (case l15 => k_is)
    (case c15 => k_is)
    (case k15 => k_is)
    (case a16 => k_is)
    (case l16 => k_is)
    (case c16 => k_is)
    (case k16 => k_is)
    (case a17 => k_is)
    (case l17 => k_is)
    (case c17 => k_is)
    (case k17 => k_is)
    (case a18 => k_is)
    (case l18 => k_is)
    (case c18 => k_is)
    (case k18 => k_is)
    (case a19 => k_is)
    (case l19 => k_is)
    (case c19 => k_is)
    (case k19 => k_is)
    (case a20 => k_is)
    (case l20 => k_is)
    (case c20 => k_is)
    (case k20 => k_is)
    (case a21 => k_is)
    (case l21 => k_is)
    (case c21 => k_is)
    (case k21 => k_is)
    (case a22 => k_is)
    (case l22 => k_is)
    (case c22 => k_is)
    (case k22 => k_is)
    (case a23 => k_is)
    (case l23 => k_is)
    (case c23 => k_is)
    (case k23 => k_is)
    (case a24 => k_is)
    (case l24 => k_is)
    (case c24 => k_is)
    (case k24 => k_is)
    (case a25 => k_is)
    (case l25 => k_is)
    (case c25 => k_is)
    (case k25 => k_is)
    (case a26 => k_is)
    (case l26 => k_is)
    (case c26 => k_is)
    (case k26 => k_is)
    (case a27 => k_is)
    (case l27 => k_is)
    (case c27 => k_is)
    (case k27 => k_is)
    (case z_range => k_is)
    (case z_sorted => k_is)
    (case z_set => k_is)
    (case z_len => k_is)
    (case z_min => k_is)
    (case z_abs => k_is)
    (case z_int => k_is)
    (case z_enumerate => k_is)
    (case z_list => k_is)
    (case z_repr => k_is)
    (case m_BITS => k_is)
    (case m_ADDRESSES => k_is)
    (case m_WORDS => k_is)
    (case ml_WORDS => k_is)
    (case m_MARKS => k_is)
    (case m_MOST_RULES => k_is)
