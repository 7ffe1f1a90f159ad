import PyProof.Rows.All
import Wide.All
import OpenK.AllK
import Wide.FinOn
import HandS.ForMost
import HandS.ForExc
import KE.DataEq
import KE.SortData
import KE.DataMinMax
import KE.DataAny
import KE.DataCmp
import KE.KDictKeyed
import KE.GoesDict
import HandS.TupAny
import HandS.CallSlots
import HandS.Ends
import PyProof.ReprReads
import HandS.RaiseMore
import HandS.TupSets
import HandS.Style
import HandS.DictTup
import HandS.Exc
import HandS.ExcOwn
import KE.KExcSuper
import HandS.TryMany
import HandS.SetFor
import HandS.Strs
import HandS.Star
import HandS.Conv
import PyProof.DictTable
import KE.KEqDict
import PyProof.ReprRoads
import HandS.More
import HandS.DictComp
import KE.GoesRaise
import HandS.TryOnly
import KE.KExcIs
import HandS.IsInst
import PySem.Challenge.RW_waysflooded_k00_errors_are_apart
set_option Elab.async false
set_option linter.all false
set_option maxRecDepth 100000
/-! DP, part 1: frozen data in an abstract heap, slots, worlds. -/
namespace DP
open PySem PySem.Spec PyProof.Rows L2

abbrev D := PyData

/-! ### keys -/
mutual
def keyD : D → Option NestedKey
  | .none => some .none
  | .bool b => some (.num (if b = true then 1 else 0))
  | .int i => some (.num i)
  | .str x => some (.text x)
  | .tuple ds => (keysD ds).map .tup
  | .list _ => none
  | .dict _ => none
def keysD : List D → Option (List NestedKey)
  | [] => some []
  | d :: ds => (keyD d).bind fun k => (keysD ds).map fun r => k :: r
end

/-- the dict object at a, entry by entry -/
def dicO (a : Addr) (es : Array DictEntry) (ep : Nat) : HO := .ext fun h => (a == sysModules) = false ∧ es.size ≤ sizeLine ∧ h.get? a = some { cls := .type "dict", data := .dict es ep }

section
variable (K : PySem.W.Frag) (w : World) (W : Hp)
mutual
/-- v is the data d, all of it in the frozen world W (or written) -/
def Rep : D → V → Prop
  | .none, v => v = .non
  | .bool b, v => v = .bl b
  | .int i, v => v = .int i
  | .str x, v => v = .str x
  | .tuple ds, v => ∃ a vs, v = .ref a ∧ SqT K W a vs ∧ RepL ds vs
  | .list ds, v => ∃ a vs, v = .ref a ∧ W a = some (.lst vs) ∧ RepL ds vs
  | .dict kvs, v => ∃ a es ep, v = .ref a ∧ W a = some (dicO a es ep) ∧ RepKV kvs es.toList ∧ (kvs.map fun p => keyD p.1).Nodup
def RepL : List D → List V → Prop
  | [], vs => vs = []
  | d :: ds, vs => ∃ v r, vs = v :: r ∧ Rep d v ∧ RepL ds r
def RepKV : List (D × D) → List DictEntry → Prop
  | [], es => es = []
  | (k, d) :: r, es => ∃ e q, es = e :: q ∧ (∃ kk, keyD k = some kk ∧ kk.depth ≤ 8 ∧ e.hash = kk.hash w) ∧ (∃ x, RelV x e.key ∧ Rep k x) ∧ (∃ y, RelV y e.val ∧ Rep d y) ∧ RepKV r q
end
end

section
variable {K : PySem.W.Frag} {w : World} {W W' H H' : Hp}
theorem Same.sqt {a : Addr} {xs : List V} (e : Same W W') (h : SqT K W a xs) : SqT K W' a xs := by
  rcases h with (q | ⟨o, q⟩) | q
  · exact .inl (.inl (e _ _ q))
  · exact .inl (.inr ⟨o, e _ _ q⟩)
  · exact .inr q
theorem Same.sql {a : Addr} {xs : List V} (e : Same W W') (h : SqL K W a xs) : SqL K W' a xs := by
  rcases h with (q | ⟨o, q⟩) | q
  · exact .inl (.inl (e _ _ q))
  · exact .inl (.inr ⟨o, e _ _ q⟩)
  · exact .inr q
theorem Same.rd {a : Addr} {o : HO} (e : Same W W') (h : Rd W a o) : Rd W' a o := by
  rcases h with q | ⟨u, q⟩
  · exact .inl (e _ _ q)
  · exact .inr ⟨u, e _ _ q⟩
mutual
theorem Rep.mono (e : Same W W') : ∀ (d : D) (v : V), Rep K w W d v → Rep K w W' d v
  | .none, _, h => h
  | .bool _, _, h => h
  | .int _, _, h => h
  | .str _, _, h => h
  | .tuple ds, _, h => by
    simp only [Rep] at h ⊢
    obtain ⟨a, vs, e1, e2, e3⟩ := h
    exact ⟨a, vs, e1, Same.sqt e e2, RepL.mono e ds vs e3⟩
  | .list ds, _, h => by
    simp only [Rep] at h ⊢
    obtain ⟨a, vs, e1, e2, e3⟩ := h
    exact ⟨a, vs, e1, e _ _ e2, RepL.mono e ds vs e3⟩
  | .dict kvs, _, h => by
    simp only [Rep] at h ⊢
    obtain ⟨a, es, ep, e1, e2, e3, e4⟩ := h
    exact ⟨a, es, ep, e1, e _ _ e2, RepKV.mono e kvs es.toList e3, e4⟩
theorem RepL.mono (e : Same W W') : ∀ (ds : List D) (vs : List V), RepL K w W ds vs → RepL K w W' ds vs
  | [], _, h => h
  | d :: ds, _, h => by
    simp only [RepL] at h ⊢
    obtain ⟨v, r, e1, e2, e3⟩ := h
    exact ⟨v, r, e1, Rep.mono e d v e2, RepL.mono e ds r e3⟩
theorem RepKV.mono (e : Same W W') : ∀ (kvs : List (D × D)) (es : List DictEntry), RepKV K w W kvs es → RepKV K w W' kvs es
  | [], _, h => h
  | (k, d) :: r, _, h => by
    simp only [RepKV] at h ⊢
    obtain ⟨en, q, e1, e2, ⟨x, x1, x2⟩, ⟨y, y1, y2⟩, e5⟩ := h
    exact ⟨en, q, e1, e2, ⟨x, x1, Rep.mono e k x x2⟩, ⟨y, y1, Rep.mono e d y y2⟩, RepKV.mono e r q e5⟩
end

theorem RepL.len : ∀ {ds : List D} {vs : List V}, RepL K w W ds vs → vs.length = ds.length
  | [], _, h => by simp only [RepL] at h; subst h; rfl
  | d :: ds, _, h => by
    simp only [RepL] at h
    obtain ⟨v, r, rfl, _, h3⟩ := h
    simp [RepL.len h3]
theorem RepL.nil : RepL K w W [] [] := by simp [RepL]
theorem RepL.cons {d : D} {ds : List D} {v : V} {vs : List V} (h : Rep K w W d v) (t : RepL K w W ds vs) : RepL K w W (d :: ds) (v :: vs) := by
  simp only [RepL]; exact ⟨v, vs, rfl, h, t⟩
theorem RepL.append : ∀ {ds es : List D} {vs ws : List V}, RepL K w W ds vs → RepL K w W es ws → RepL K w W (ds ++ es) (vs ++ ws)
  | [], _, _, _, h, t => by simp only [RepL] at h; subst h; exact t
  | d :: ds, _, _, _, h, t => by
    simp only [RepL] at h
    obtain ⟨v, r, rfl, h2, h3⟩ := h
    exact RepL.cons h2 (RepL.append h3 t)
theorem RepL.at : ∀ {ds : List D} {vs : List V} {i : Nat} {d : D}, RepL K w W ds vs → ds[i]? = some d → ∃ v, vs[i]? = some v ∧ Rep K w W d v
  | [], _, _, _, _, e => by simp at e
  | d :: ds, _, 0, _, h, e => by
    simp only [RepL] at h
    obtain ⟨v, r, rfl, h2, h3⟩ := h
    simp only [List.getElem?_cons_zero, Option.some.injEq] at e
    subst e
    exact ⟨v, rfl, h2⟩
  | d :: ds, _, i + 1, d', h, e => by
    simp only [RepL] at h
    obtain ⟨v, r, rfl, h2, h3⟩ := h
    obtain ⟨x, h4, h5⟩ := RepL.at (i := i) h3 (by simpa using e)
    exact ⟨x, by simpa using h4, h5⟩
theorem RepL.at' : ∀ {ds : List D} {vs : List V} {i : Nat} {v : V}, RepL K w W ds vs → vs[i]? = some v → ∃ d, ds[i]? = some d ∧ Rep K w W d v
  | [], _, _, _, h, e => by simp only [RepL] at h; subst h; simp at e
  | d :: ds, _, 0, _, h, e => by
    simp only [RepL] at h
    obtain ⟨v, r, rfl, h2, h3⟩ := h
    simp only [List.getElem?_cons_zero, Option.some.injEq] at e
    subst e
    exact ⟨d, rfl, h2⟩
  | d :: ds, _, i + 1, d', h, e => by
    simp only [RepL] at h
    obtain ⟨v, r, rfl, h2, h3⟩ := h
    obtain ⟨x, h4, h5⟩ := RepL.at' (i := i) h3 (by simpa using e)
    exact ⟨x, by simpa using h4, h5⟩
theorem RepL.take : ∀ {ds : List D} {vs : List V} (n : Nat), RepL K w W ds vs → RepL K w W (ds.take n) (vs.take n)
  | _, _, 0, _ => RepL.nil
  | [], _, n + 1, h => by simp only [RepL] at h; subst h; exact RepL.nil
  | d :: ds, _, n + 1, h => by
    simp only [RepL] at h
    obtain ⟨v, r, rfl, h2, h3⟩ := h
    exact RepL.cons h2 (RepL.take n h3)
theorem RepL.drop : ∀ {ds : List D} {vs : List V} (n : Nat), RepL K w W ds vs → RepL K w W (ds.drop n) (vs.drop n)
  | _, _, 0, h => h
  | [], _, n + 1, h => by simp only [RepL] at h; subst h; exact RepL.nil
  | d :: ds, _, n + 1, h => by
    simp only [RepL] at h
    obtain ⟨v, r, rfl, h2, h3⟩ := h
    exact RepL.drop n h3
theorem RepL.set : ∀ {ds : List D} {vs : List V} (i : Nat) {d : D} {v : V}, RepL K w W ds vs → Rep K w W d v → RepL K w W (ds.set i d) (vs.set i v)
  | [], _, _, _, _, h, _ => by simp only [RepL] at h; subst h; exact RepL.nil
  | _ :: ds, _, 0, _, _, h, q => by
    simp only [RepL] at h
    obtain ⟨v, r, rfl, h2, h3⟩ := h
    exact RepL.cons q h3
  | _ :: ds, _, i + 1, _, _, h, q => by
    simp only [RepL] at h
    obtain ⟨v, r, rfl, h2, h3⟩ := h
    exact RepL.cons h2 (RepL.set i h3 q)
theorem RepL.reverse : ∀ {ds : List D} {vs : List V}, RepL K w W ds vs → RepL K w W ds.reverse vs.reverse
  | [], _, h => by simp only [RepL] at h; subst h; exact RepL.nil
  | d :: ds, _, h => by
    simp only [RepL] at h
    obtain ⟨v, r, rfl, h2, h3⟩ := h
    rw [List.reverse_cons, List.reverse_cons]
    exact RepL.append (RepL.reverse h3) (RepL.cons h2 RepL.nil)

/-! ### what a frozen datum reads as -/
variable {X : Cx} {pins : List (Addr × Obj)} {σ : L2.St} {s : Shared}
mutual
theorem Rep.reads (I : Inv X pins σ H s) (e : Same W H) : ∀ (d : D) (v : V) (u : Value), Rep X.K X.w W d v → RelV v u → ∃ as, Reads s.heap u d as
  | .none, _, _, h, r => by simp only [Rep] at h; subst h; cases r; exact ⟨[], .none⟩
  | .bool b, _, _, h, r => by simp only [Rep] at h; subst h; cases r; exact ⟨[], .bool b⟩
  | .int i, _, _, h, r => by simp only [Rep] at h; subst h; obtain ⟨t, rfl⟩ := r; exact ⟨[], .int i t⟩
  | .str x, _, _, h, r => by simp only [Rep] at h; subst h; obtain ⟨t, rfl⟩ := r; exact ⟨[], .str x t⟩
  | .tuple ds, _, _, h, r => by
    simp only [Rep] at h
    obtain ⟨a, vs, rfl, q, l⟩ := h
    cases r
    obtain ⟨its, rv, ⟨o, e1, e2, n, e3⟩, _⟩ := I.tuple (Same.sqt e q)
    obtain ⟨as, ra⟩ := RepL.reads I e ds vs its l rv
    exact ⟨as, .tuple e1 e2 e3 (by simpa using ra)⟩
  | .list ds, _, _, h, r => by
    simp only [Rep] at h
    obtain ⟨a, vs, rfl, q, l⟩ := h
    cases r
    obtain ⟨its, rv, ⟨o, n, e1, e2, _, e3⟩, _⟩ := I.list (xs := vs) (.of (e _ _ q))
    obtain ⟨as, ra⟩ := RepL.reads I e ds vs its l rv
    exact ⟨_, .list e1 e2 e3 (by simpa using ra)⟩
  | .dict kvs, _, _, h, r => by
    simp only [Rep] at h
    obtain ⟨a, es, ep, rfl, q, l, _⟩ := h
    cases r
    obtain ⟨⟨_, _, e1⟩, _⟩ := I.hok a _ (e _ _ q)
    obtain ⟨as, bs, ra, rb⟩ := RepKV.reads I e kvs es.toList l
    exact ⟨_, .dict e1 rfl rfl ra rb⟩
theorem RepL.reads (I : Inv X pins σ H s) (e : Same W H) : ∀ (ds : List D) (vs : List V) (us : List Value), RepL X.K X.w W ds vs → Vals vs us → ∃ as, ReadsAll s.heap us ds as
  | [], _, _, h, r => by simp only [RepL] at h; subst h; cases r; exact ⟨[], .nil⟩
  | d :: ds, _, _, h, r => by
    simp only [RepL] at h
    obtain ⟨v, q, rfl, h1, h2⟩ := h
    cases r with
    | cons r1 r2 =>
      obtain ⟨as, ra⟩ := Rep.reads I e d v _ h1 r1
      obtain ⟨bs, rb⟩ := RepL.reads I e ds q _ h2 r2
      exact ⟨_, .cons ra rb⟩
theorem RepKV.reads (I : Inv X pins σ H s) (e : Same W H) : ∀ (kvs : List (D × D)) (es : List DictEntry), RepKV X.K X.w W kvs es → ∃ as bs, ReadsAll s.heap (es.map (·.key)) (kvs.map (·.1)) as ∧ ReadsAll s.heap (es.map (·.val)) (kvs.map (·.2)) bs
  | [], _, h => by simp only [RepKV] at h; subst h; exact ⟨[], [], .nil, .nil⟩
  | (k, d) :: r, _, h => by
    simp only [RepKV] at h
    obtain ⟨en, q, rfl, _, ⟨x, x1, x2⟩, ⟨y, y1, y2⟩, h5⟩ := h
    obtain ⟨a1, r1⟩ := Rep.reads I e k x _ x2 x1
    obtain ⟨a2, r2⟩ := Rep.reads I e d y _ y2 y1
    obtain ⟨as, bs, ra, rb⟩ := RepKV.reads I e r q h5
    exact ⟨_, _, .cons r1 ra, .cons r2 rb⟩
end
end
end DP
set_option Elab.async false
set_option linter.all false
set_option maxRecDepth 100000
/-! DP, part 2: slots, worlds and what changes them; outcomes; the readings tX, tT, tA, tS. -/
namespace DP
open PySem PySem.Spec PyProof.Rows L2

/-- a slot: nothing, frozen data, or a container of one's own (t: which in-out parameter it is) -/
inductive Sl where
  | no
  | fz (d : D)
  | ow (t : Option Nat) (c : D)
  /-- the law's script -/
  | sc (ns : List Int)
  /-- a dict of one's own whose values are dicts of one's own -/
  | nd (kvs : List (D × List (D × D)))
  /-- an exception, or a list of exceptions; d: (its class's name, its at) -/
  | xe (d : D)

abbrev Ev := List Sl

/-- an outcome: a value; an exception of the class named c with d as its at, and the slots then; nothing is known -/
inductive Out (α : Type) where
  | ok (a : α)
  | exc (c : Str) (d : D) (e : Ev)
  | bad
def Out.bind {α β : Type} : Out α → (α → Out β) → Out β
  | .ok a, f => f a
  | .exc c d e, _ => .exc c d e
  | .bad, _ => .bad
@[simp] theorem Out.bind_ok {α β : Type} (a : α) (f : α → Out β) : Out.bind (.ok a) f = f a := rfl
@[simp] theorem Out.bind_exc {α β : Type} (c : Str) (d : D) (e : Ev) (f : α → Out β) : Out.bind (.exc c d e) f = .exc c d e := rfl
@[simp] theorem Out.bind_bad {α β : Type} (f : α → Out β) : Out.bind .bad f = .bad := rfl

section
variable (K : PySem.W.Frag) (w : World)
/-- a container of one's own at p -/
def Own (W H : Hp) : D → Addr → Prop
  | .list ds, p => ∃ vs, H p = some (.lst vs) ∧ RepL K w W ds vs
  | .dict kvs, p => ∃ es ep, H p = some (dicO p es ep) ∧ RepKV K w W kvs es.toList ∧ (kvs.map fun q => keyD q.1).Nodup
  | _, _ => False
/-- the entries of a dict whose values are dicts of one's own, at qs -/
def NdR (W H : Hp) : List (D × List (D × D)) → List DictEntry → List Addr → Prop
  | [], es, qs => es = [] ∧ qs = []
  | (k, m) :: r, es, qs => ∃ e q es' qs', es = e :: es' ∧ qs = q :: qs' ∧ (∃ kk, keyD k = some kk ∧ kk.depth ≤ 8 ∧ e.hash = kk.hash w) ∧ (∃ x, RelV x e.key ∧ Rep K w W k x) ∧ e.val = Value.ref q ∧ W q = none ∧ Own K w W H (.dict m) q ∧ NdR W H r es' qs'
/-- an exception of the class C at a, its attributes at dx -/
def excP (a C dx : Addr) : Heap → Prop := fun h => ∃ oe vs, h.get? a = some oe ∧ oe.cls = .ref C ∧ oe.dict = some dx ∧ oe.data = .fields vs
def excH (a C dx : Addr) : HO := .ext (excP a C dx)
/-- an exception as the data (name, at) -/
def RepE1 (W : Hp) : D → V → Prop
  | .tuple [.str c, d], v => ∃ a C dx u, v = .ref a ∧ PySem.W.nsIn K mainGlobals c = some (some (.ref C)) ∧ W a = some (excH a C dx) ∧ W dx = some (.xd [(("at" : Str), u)]) ∧ Rep K w W d u
  | _, _ => False
def RepEL (W : Hp) : List D → List V → Prop
  | [], vs => vs = []
  | d :: ds, vs => ∃ v r, vs = v :: r ∧ RepE1 K w W d v ∧ RepEL W ds r
def RepE (W : Hp) : D → V → Prop
  | .list ds, v => ∃ a vs, v = .ref a ∧ W a = some (.lst vs) ∧ RepEL K w W ds vs
  | d, v => RepE1 K w W d v
/-- a slot s with the value v; l: the addresses that are its own -/
def SlR (ρ : Nat → Addr) (W H : Hp) : Sl → Option V → List Addr → Prop
  | .no, _, l => l = []
  | .fz d, v, l => l = [] ∧ ∃ x, v = some x ∧ Rep K w W d x
  | .xe d, v, l => l = [] ∧ ∃ x, v = some x ∧ RepE K w W d x
  | .sc ns, v, l => l = [] ∧ ∃ a, v = some (.ref a) ∧ SqL K W a (ns.map V.int)
  | .nd kvs, v, l => ∃ p qs es ep, l = p :: qs ∧ v = some (.ref p) ∧ W p = none ∧ H p = some (dicO p es ep) ∧ NdR K w W H kvs es.toList qs ∧ (kvs.map fun q => keyD q.1).Nodup ∧ (p :: qs).Nodup
  | .ow t c, v, l => ∃ p, l = [p] ∧ v = some (.ref p) ∧ W p = none ∧ Own K w W H c p ∧ ∀ j, t = some j → ρ j = p
/-- the state's picture: the frozen world W within H, the slots, the addresses that are one's own -/
structure SR (ρ : Nat → Addr) (W H : Hp) (env : Ev) (σ : L2.St) (A : List (List Addr)) : Prop where
  sub : Same W H
  le : env.length = σ.length
  la : A.length = σ.length
  slot : ∀ (i : Nat) s v l, env[i]? = some s → σ[i]? = some v → A[i]? = some l → SlR K w ρ W H s v l
  inj : ∀ (i j : Nat) l m p, A[i]? = some l → A[j]? = some m → p ∈ l → p ∈ m → i = j
end
def ownd (A : List (List Addr)) (p : Addr) : Prop := ∃ (i : Nat) (l : List Addr), A[i]? = some l ∧ p ∈ l
/-- what may have changed: new things, and one's own -/
structure Fr (W H : Hp) (P : Addr → Prop) (W' H' : Hp) (P' : Addr → Prop) : Prop where
  ext : Same W W'
  keep : ∀ p o, H p = some o → ¬ P p → H' p = some o
  new : ∀ p, W' p ≠ none → W p = none → P p ∨ H p = none
  own : ∀ p, P' p → P p ∨ H p = none
theorem Fr.refl (W H : Hp) (P : Addr → Prop) : Fr W H P W H P := ⟨Same.refl _, fun _ _ h _ => h, fun _ h1 h2 => absurd h2 h1, fun _ h => .inl h⟩
theorem Fr.trans {W H W1 H1 W2 H2 : Hp} {P P1 P2 : Addr → Prop} (a : Fr W H P W1 H1 P1) (b : Fr W1 H1 P1 W2 H2 P2) : Fr W H P W2 H2 P2 := by
  have back : ∀ p, H1 p = none → P p ∨ H p = none := fun p h => by
    cases q : H p with
    | none => exact .inr rfl
    | some o =>
      by_cases hp : P p
      · exact .inl hp
      · have := a.keep p o q hp
        rw [h] at this; cases this
  refine ⟨a.ext.trans b.ext, fun p o h hp => ?_, fun p h2 h0 => ?_, fun p h => ?_⟩
  · refine b.keep p o (a.keep p o h hp) fun h1 => ?_
    rcases a.own p h1 with z | z
    · exact hp z
    · rw [h] at z; cases z
  · cases q : W1 p with
    | some o => exact a.new p (by rw [q]; exact fun z => nomatch z) h0
    | none =>
      rcases b.new p h2 q with z | z
      · exact a.own p z
      · exact back p z
  · rcases b.own p h with z | z
    · exact a.own p z
    · exact back p z
/-- only new things, frozen or thrown away -/
structure Ex (W H W' H' : Hp) : Prop where
  ext : Same W W'
  keep : Same H H'
  sub : Same W' H'
  new : ∀ p, W' p ≠ none → W p = none → H p = none
theorem Ex.refl {W H : Hp} (e : Same W H) : Ex W H W H := ⟨Same.refl _, Same.refl _, e, fun _ h1 h2 => absurd h2 h1⟩
theorem Ex.trans {W H W1 H1 W2 H2 : Hp} (a : Ex W H W1 H1) (b : Ex W1 H1 W2 H2) : Ex W H W2 H2 := by
  refine ⟨a.ext.trans b.ext, a.keep.trans b.keep, b.sub, fun p h2 h0 => ?_⟩
  cases q : W1 p with
  | some o => exact a.new p (by rw [q]; exact fun z => nomatch z) h0
  | none =>
    have z := b.new p h2 q
    cases q' : H p with
    | none => rfl
    | some o => rw [a.keep p o q'] at z; cases z
theorem Ex.fr {W H W' H' : Hp} (e : Ex W H W' H') (P : Addr → Prop) : Fr W H P W' H' P := ⟨e.ext, fun p o h _ => e.keep p o h, fun p h1 h2 => .inr (e.new p h1 h2), fun _ h => .inl h⟩
/-- one new frozen object -/
theorem Ex.one {W H : Hp} (e : Same W H) {p : Addr} {o : HO} (h : H p = none) : Ex W H (upd W p o) (upd H p o) := by
  have hW : W p = none := e.free h
  refine ⟨fun b u q => ?_, fun b u q => ?_, fun b u q => ?_, fun b h1 h2 => ?_⟩
  · rw [upd_ne (ne_of_none q hW)]; exact q
  · rw [upd_ne (ne_of_none q h)]; exact q
  · by_cases hb : b = p
    · subst hb; rw [upd_same] at q ⊢; exact q
    · rw [upd_ne hb] at q ⊢; exact e _ _ q
  · by_cases hb : b = p
    · subst hb; exact h
    · rw [upd_ne hb] at h1; exact absurd h2 h1
/-- one new object that is not frozen -/
theorem Ex.junk {W H : Hp} (e : Same W H) {p : Addr} {o : HO} (h : H p = none) : Ex W H W (upd H p o) := by
  refine ⟨Same.refl _, fun b u q => ?_, fun b u q => ?_, fun b h1 h2 => absurd h2 h1⟩
  · rw [upd_ne (ne_of_none q h)]; exact q
  · rw [upd_ne (ne_of_none (e _ _ q) h)]; exact e _ _ q
section
variable {K : PySem.W.Frag} {w : World} {ρ : Nat → Addr} {W W' H H' : Hp} {env env' : Ev} {σ : L2.St} {A A' : List (List Addr)}
theorem Own.mono {c : D} {p : Addr} (h : Own K w W H c p) (e : Same W W') (q : H' p = H p) : Own K w W' H' c p := by
  cases c with
  | list ds => obtain ⟨vs, h1, h2⟩ := h; exact ⟨vs, q.trans h1, RepL.mono e ds vs h2⟩
  | dict kvs => obtain ⟨es, ep, h1, h2, h3⟩ := h; exact ⟨es, ep, q.trans h1, RepKV.mono e kvs _ h2, h3⟩
  | _ => exact h.elim
theorem Own.there {c : D} {p : Addr} (h : Own K w W H c p) : ∃ o, H p = some o := by
  cases c with
  | list ds => obtain ⟨vs, h1, h2⟩ := h; exact ⟨_, h1⟩
  | dict kvs => obtain ⟨es, ep, h1, h2⟩ := h; exact ⟨_, h1⟩
  | _ => exact h.elim
theorem RepE1.mono {W W' : Hp} (e : Same W W') : ∀ {d : D} {v : V}, RepE1 K w W d v → RepE1 K w W' d v := by
  intro d v h
  unfold RepE1 at h ⊢
  split at h
  · obtain ⟨a, C, dx, u, h1, h2, h3, h4, h5⟩ := h
    exact ⟨a, C, dx, u, h1, h2, e _ _ h3, e _ _ h4, Rep.mono e _ _ h5⟩
  · exact h.elim
theorem RepEL.mono {W W' : Hp} (e : Same W W') : ∀ {ds : List D} {vs : List V}, RepEL K w W ds vs → RepEL K w W' ds vs
  | [], _, h => h
  | d :: ds, _, ⟨v, r, h1, h2, h3⟩ => ⟨v, r, h1, h2.mono e, RepEL.mono e h3⟩
theorem RepE.mono {W W' : Hp} (e : Same W W') {d : D} {v : V} (h : RepE K w W d v) : RepE K w W' d v := by
  cases d with
  | list ds => obtain ⟨a, vs, h1, h2, h3⟩ := h; exact ⟨a, vs, h1, e _ _ h2, h3.mono e⟩
  | none => exact RepE1.mono (K := K) (w := w) (d := .none) (v := v) e h
  | bool b => exact RepE1.mono (K := K) (w := w) (d := .bool b) (v := v) e h
  | int i => exact RepE1.mono (K := K) (w := w) (d := .int i) (v := v) e h
  | str i => exact RepE1.mono (K := K) (w := w) (d := .str i) (v := v) e h
  | tuple i => exact RepE1.mono (K := K) (w := w) (d := .tuple i) (v := v) e h
  | dict i => exact RepE1.mono (K := K) (w := w) (d := .dict i) (v := v) e h
theorem NdR.own : ∀ {kvs : List (D × List (D × D))} {es : List DictEntry} {qs : List Addr}, NdR K w W H kvs es qs → ∀ p ∈ qs, W p = none ∧ ∃ o, H p = some o
  | [], _, _, ⟨_, h⟩, p, hp => by subst h; cases hp
  | (k, m) :: r, _, _, ⟨e, q, es', qs', e1, e2, _, _, _, n, o, t⟩, p, hp => by
    subst e2
    rcases List.mem_cons.mp hp with z | z
    · subst z; exact ⟨n, o.there⟩
    · exact NdR.own t p z
theorem NdR.keep : ∀ {kvs : List (D × List (D × D))} {es : List DictEntry} {qs : List Addr}, NdR K w W H kvs es qs → Same W W' → (∀ p ∈ qs, H' p = H p ∧ W' p = none) → NdR K w W' H' kvs es qs
  | [], _, _, h, _, _ => h
  | (k, m) :: r, _, _, ⟨e, q, es', qs', e1, e2, h1, ⟨x, h2, h3⟩, h4, n, o, t⟩, s, hk => by
    subst e2
    obtain ⟨k1, k2⟩ := hk q List.mem_cons_self
    exact ⟨e, q, es', qs', e1, rfl, h1, ⟨x, h2, Rep.mono s k x h3⟩, h4, k2, o.mono s k1, NdR.keep t s fun p hp => hk p (List.mem_cons_of_mem _ hp)⟩
/-- a slot's own addresses: not frozen, and there -/
theorem SlR.own {s : Sl} {v : Option V} {l : List Addr} (h : SlR K w ρ W H s v l) {p : Addr} (hp : p ∈ l) : W p = none ∧ ∃ o, H p = some o := by
  cases s with
  | no => have h : l = [] := h; subst h; cases hp
  | fz d => obtain ⟨h, _⟩ := h; subst h; cases hp
  | sc ns => obtain ⟨h, _⟩ := h; subst h; cases hp
  | xe d => obtain ⟨h, _⟩ := h; subst h; cases hp
  | nd kvs =>
    obtain ⟨p', qs, es, ep, h, _, h4, h5, h6, _⟩ := h
    subst h
    rcases List.mem_cons.mp hp with z | z
    · subst z; exact ⟨h4, _, h5⟩
    · exact h6.own p z
  | ow t c =>
    obtain ⟨p', h, _, h4, h5, _⟩ := h
    subst h
    have e : p = p' := by simpa using hp
    subst e
    exact ⟨h4, h5.there⟩
/-- a slot's picture where its own addresses are as they were -/
theorem SlR.keep {s : Sl} {v : Option V} {l : List Addr} (h : SlR K w ρ W H s v l) (e : Same W W') (k : ∀ p ∈ l, H' p = H p ∧ W' p = none) : SlR K w ρ W' H' s v l := by
  cases s with
  | no => exact h
  | fz d => obtain ⟨q1, x, q2, q3⟩ := h; exact ⟨q1, x, q2, Rep.mono e d x q3⟩
  | sc ns => obtain ⟨q1, x, q2, q3⟩ := h; exact ⟨q1, x, q2, Same.sql e q3⟩
  | xe d => obtain ⟨q1, x, q2, q3⟩ := h; exact ⟨q1, x, q2, q3.mono e⟩
  | nd kvs =>
    obtain ⟨p, qs, es, ep, q1, q2, q3, q4, q5, q6, q7⟩ := h
    subst q1
    obtain ⟨k1, k2⟩ := k p (by simp)
    exact ⟨p, qs, es, ep, rfl, q2, k2, k1.trans q4, q5.keep e fun b hb => k b (List.mem_cons_of_mem _ hb), q6, q7⟩
  | ow t c =>
    obtain ⟨p, q1, q2, q3, q4, q5⟩ := h
    subst q1
    obtain ⟨k1, k2⟩ := k p (by simp)
    exact ⟨p, rfl, q2, k2, q4.mono e k1, q5⟩
theorem SR.at (S : SR K w ρ W H env σ A) {i : Nat} {s : Sl} (h : env[i]? = some s) : ∃ v l, σ[i]? = some v ∧ A[i]? = some l ∧ SlR K w ρ W H s v l := by
  have h0 : i < env.length := (List.getElem?_eq_some_iff.mp h).1
  have h1 : i < σ.length := by rw [← S.le]; exact h0
  have h2 : i < A.length := by rw [S.la]; exact h1
  exact ⟨_, _, List.getElem?_eq_getElem h1, List.getElem?_eq_getElem h2, S.slot i s _ _ h (List.getElem?_eq_getElem h1) (List.getElem?_eq_getElem h2)⟩
theorem SR.own (S : SR K w ρ W H env σ A) {p : Addr} (h : ownd A p) : W p = none ∧ ∃ o, H p = some o := by
  obtain ⟨i, l, hi, hp⟩ := h
  have hl : i < A.length := (List.getElem?_eq_some_iff.mp hi).1
  have h1 : i < σ.length := by rw [← S.la]; exact hl
  have h2 : i < env.length := by rw [S.le]; exact h1
  exact (S.slot i _ _ _ (List.getElem?_eq_getElem h2) (List.getElem?_eq_getElem h1) hi).own hp
/-- the slots where what is their own is as it was -/
theorem SR.keep (S : SR K w ρ W H env σ A) (e : Same W W') (sub : Same W' H') (k : ∀ p, ownd A p → H' p = H p ∧ W' p = none) : SR K w ρ W' H' env σ A :=
  ⟨sub, S.le, S.la, fun i s v l h1 h2 h3 => (S.slot i s v l h1 h2 h3).keep e fun p hp => k p ⟨i, l, h3, hp⟩, S.inj⟩
/-- the same slots in a bigger world -/
theorem SR.ex (S : SR K w ρ W H env σ A) (e : Ex W H W' H') : SR K w ρ W' H' env σ A := by
  refine S.keep e.ext e.sub fun p hp => ?_
  obtain ⟨h1, o, h2⟩ := S.own hp
  refine ⟨by rw [h2]; exact e.keep _ _ h2, ?_⟩
  cases z : W' p with
  | none => rfl
  | some u =>
    have q := e.new p (by rw [z]; exact fun z => nomatch z) h1
    rw [h2] at q; cases q
/-- what of a caller's picture is left when others have changed things that are not its own -/
theorem SR.fr {P P' : Addr → Prop} (S : SR K w ρ W H env σ A) (e : Fr W H P W' H' P') (sub : Same W' H') (hP : ∀ p, P p → ¬ ownd A p) : SR K w ρ W' H' env σ A := by
  refine S.keep e.ext sub fun p hp => ?_
  obtain ⟨h1, o, h2⟩ := S.own hp
  have np : ¬ P p := fun z => hP p z hp
  refine ⟨by rw [h2]; exact e.keep _ _ h2 np, ?_⟩
  cases z : W' p with
  | none => rfl
  | some u =>
    rcases e.new p (by rw [z]; exact fun z => nomatch z) h1 with y | y
    · exact absurd y np
    · rw [h2] at y; cases y
theorem at_set {α : Type} {l : List α} {i j : Nat} {x y : α} (h : (l.set i x)[j]? = some y) : (j = i ∧ y = x) ∨ (j ≠ i ∧ l[j]? = some y) := by
  by_cases hj : j = i
  · subst hj
    have hl : j < l.length := by
      have := (List.getElem?_eq_some_iff.mp h).1
      simpa using this
    rw [List.getElem?_set_self hl] at h
    cases h
    exact .inl ⟨rfl, rfl⟩
  · rw [List.getElem?_set_ne (Ne.symm hj)] at h
    exact .inr ⟨hj, h⟩
/-- ONE SLOT STORED, the others as they are: m are its own addresses now, none of them another slot's -/
theorem SR.put (S : SR K w ρ W H env σ A) (i : Nat) {s : Sl} {v : Option V} {m : List Addr} (h : SlR K w ρ W H s v m) (hm : ∀ (j : Nat) l p, j ≠ i → A[j]? = some l → p ∈ l → p ∉ m) :
    SR K w ρ W H (env.set i s) (σ.set i v) (A.set i m) := by
  refine ⟨S.sub, by simp [S.le], by simp [S.la], fun j s' v' l h1 h2 h3 => ?_, fun j k l l' p h1 h2 p1 p2 => ?_⟩
  · rcases at_set h1 with ⟨e1, e2⟩ | ⟨e1, e2⟩ <;> rcases at_set h2 with ⟨f1, f2⟩ | ⟨f1, f2⟩ <;> rcases at_set h3 with ⟨g1, g2⟩ | ⟨g1, g2⟩ <;> first | exact absurd e1 f1 | exact absurd f1 e1 | exact absurd e1 g1 | exact absurd g1 e1 | skip
    · subst e2 f2 g2; exact h
    · exact S.slot j _ _ _ e2 f2 g2
  · rcases at_set h1 with ⟨e1, e2⟩ | ⟨e1, e2⟩ <;> rcases at_set h2 with ⟨f1, f2⟩ | ⟨f1, f2⟩
    · rw [e1, f1]
    · subst e2; exact absurd p1 (hm k l' p f1 f2 p2)
    · subst f2; exact absurd p2 (hm j l p e1 e2 p1)
    · exact S.inj j k l l' p e2 f2 p1 p2
theorem ownd_put {i : Nat} {m : List Addr} {p : Addr} (h : ownd (A.set i m) p) : p ∈ m ∨ ownd A p := by
  obtain ⟨j, l, h, hp⟩ := h
  rcases at_set h with ⟨_, e⟩ | ⟨_, e⟩
  · subst e; exact .inl hp
  · exact .inr ⟨j, l, e, hp⟩
/-- .. frozen data -/
theorem SR.setFz (S : SR K w ρ W H env σ A) (i : Nat) {d : D} {x : V} (r : Rep K w W d x) : SR K w ρ W H (env.set i (.fz d)) (σ.set i (some x)) (A.set i []) :=
  S.put i ⟨rfl, x, rfl, r⟩ fun _ _ _ _ _ _ h => nomatch h
theorem SR.setNo (S : SR K w ρ W H env σ A) (i : Nat) (v : Option V) : SR K w ρ W H (env.set i .no) (σ.set i v) (A.set i []) := S.put i rfl fun _ _ _ _ _ _ h => nomatch h
theorem ownd_nil {i : Nat} {p : Addr} (h : ownd (A.set i []) p) : ownd A p := (ownd_put h).resolve_left fun h => nomatch h
end
end DP
set_option Elab.async false
set_option linter.all false
set_option maxRecDepth 100000
/-! DP, part 3: the readings of expressions, tests, argument lists. -/
namespace DP
open PySem PySem.Spec PyProof.Rows L2

abbrev XF := Ev → Out (D × Ev)
abbrev TF := Ev → Out (Bool × Ev)
abbrev AF := Ev → Out (List D × Ev)

section
variable {α β : Type}
/-- what is wanted of an outcome -/
def onG (K : PySem.W.Frag) (w : World) (mg : Str → Option Value) (Wx : WX) (R : Hp → α → β → Prop) (ρ : Nat → Addr) (σ : L2.St) (W H : Hp) (A : List (List Addr)) (o : Out (α × Ev)) (Q : β → Hp → Prop) : Prop :=
  match o with
  | .ok (d, env') => ∀ W' H' A' v, SR K w ρ W' H' env' σ A' → Fr W H (ownd A) W' H' (ownd A') → R W' d v → Q v H'
  | .exc c d env' => ∀ C W' H' A' dx v, mg c = some (.ref C) → SR K w ρ W' H' env' σ A' → Fr W H (ownd A) W' H' (ownd A') → H' dx = some (.xd [("at", v)]) → Rep K w W' d v → Wx (.ref C) (some dx) σ H'
  | .bad => False
/-- the reading of what f reckons -/
def tG (K : PySem.W.Frag) (w : World) (mg : Str → Option Value) (Wx : WX) (R : Hp → α → β → Prop) (f : Ev → Out (α × Ev)) : L2.St → Hp → (β → Hp → Prop) → Prop := fun σ H Q =>
  ∃ ρ W env A, SR K w ρ W H env σ A ∧ onG K w mg Wx R ρ σ W H A (f env) Q
variable {K : PySem.W.Frag} {w : World} {mg : Str → Option Value} {Wx : WX} {R : Hp → α → β → Prop} {ρ : Nat → Addr} {σ : L2.St} {W H W1 H1 : Hp} {A A1 : List (List Addr)} {o : Out (α × Ev)} {Q Q' : β → Hp → Prop}
theorem onG_fr (h : onG K w mg Wx R ρ σ W H A o Q) (F : Fr W H (ownd A) W1 H1 (ownd A1)) : onG K w mg Wx R ρ σ W1 H1 A1 o Q := by
  cases o with
  | ok r => exact fun W' H' A' v S' F' r' => h W' H' A' v S' (F.trans F') r'
  | exc c d e => exact fun C W' H' A' dx v g S' F' x r' => h C W' H' A' dx v g S' (F.trans F') x r'
  | bad => exact h
theorem onG_mono (h : onG K w mg Wx R ρ σ W H A o Q) (k : ∀ v H', Q v H' → Q' v H') : onG K w mg Wx R ρ σ W H A o Q' := by
  cases o with
  | ok r => exact fun W' H' A' v S' F' r' => k _ _ (h W' H' A' v S' F' r')
  | exc c d e => exact h
  | bad => exact h
theorem tG_mono {f : Ev → Out (α × Ev)} (k : ∀ v H', Q v H' → Q' v H') (h : tG K w mg Wx R f σ H Q) : tG K w mg Wx R f σ H Q' := by
  obtain ⟨ρ, W, env, A, S, h⟩ := h
  exact ⟨ρ, W, env, A, S, onG_mono h k⟩
end
/-- THE STEP: what f reckons, then the rest -/
theorem tG_seq {α β γ δ : Type} {K : PySem.W.Frag} {w : World} {mg : Str → Option Value} {Wx : WX} {R : Hp → α → β → Prop} {R' : Hp → γ → δ → Prop} {ρ : Nat → Addr} {σ : L2.St} {W H : Hp} {A : List (List Addr)} {env : Ev} {f : Ev → Out (α × Ev)} {k : α × Ev → Out (γ × Ev)} {Q : δ → Hp → Prop}
    (S : SR K w ρ W H env σ A) (h : onG K w mg Wx R' ρ σ W H A ((f env).bind k) Q) :
    tG K w mg Wx R f σ H fun v H1 => ∃ d W1 env1 A1, SR K w ρ W1 H1 env1 σ A1 ∧ Fr W H (ownd A) W1 H1 (ownd A1) ∧ R W1 d v ∧ onG K w mg Wx R' ρ σ W1 H1 A1 (k (d, env1)) Q := by
  refine ⟨ρ, W, env, A, S, ?_⟩
  cases e : f env with
  | ok r =>
    rw [e, Out.bind_ok] at h
    obtain ⟨d, env1⟩ := r
    exact fun W1 H1 A1 v S1 F1 r1 => ⟨d, W1, env1, A1, S1, F1, r1, onG_fr h F1⟩
  | exc c d e' => rw [e, Out.bind_exc] at h; exact h
  | bad => rw [e, Out.bind_bad] at h; exact h.elim
/-- the step, with what follows -/
theorem tG_then {α β γ δ : Type} {K : PySem.W.Frag} {w : World} {mg : Str → Option Value} {Wx : WX} {R : Hp → α → β → Prop} {R' : Hp → γ → δ → Prop} {ρ : Nat → Addr} {σ : L2.St} {W H : Hp} {A : List (List Addr)} {env : Ev} {f : Ev → Out (α × Ev)} {k : α × Ev → Out (γ × Ev)} {Q : δ → Hp → Prop} {Q' : β → Hp → Prop}
    (S : SR K w ρ W H env σ A) (h : onG K w mg Wx R' ρ σ W H A ((f env).bind k) Q)
    (n : ∀ d W1 H1 env1 A1 v, SR K w ρ W1 H1 env1 σ A1 → Fr W H (ownd A) W1 H1 (ownd A1) → R W1 d v → onG K w mg Wx R' ρ σ W1 H1 A1 (k (d, env1)) Q → Q' v H1) : tG K w mg Wx R f σ H Q' :=
  tG_mono (fun v H1 ⟨d, W1, env1, A1, S1, F1, r1, h1⟩ => n d W1 H1 env1 A1 v S1 F1 r1 h1) (tG_seq S h)

abbrev tX (X : Cx) (Wx : WX) (f : XF) : TE := tG X.K X.w X.mg Wx (Rep X.K X.w) f
abbrev tT (X : Cx) (Wx : WX) (f : TF) : TT := tG X.K X.w X.mg Wx (fun _ a b => b = a) f
abbrev tL (X : Cx) (Wx : WX) (f : AF) : TA := tG X.K X.w X.mg Wx (RepL X.K X.w) f
abbrev onX (X : Cx) (Wx : WX) := onG X.K X.w X.mg Wx (Rep X.K X.w)

/-- e reckons as f says -/
abbrev EX (X : Cx) (Wx : WX) (e : Expr) (f : XF) : Prop := PE X e (tX X Wx f)
abbrev ET (X : Cx) (Wx : WX) (e : Expr) (f : TF) : Prop := PT X e (tT X Wx f)
abbrev EA (X : Cx) (Wx : WX) (es : List Expr) (f : AF) : Prop := PA X es (tL X Wx f)

theorem PE.wk {X : Cx} {e : Expr} {t t' : TE} (h : PE X e t) (k : ∀ σ H Q, t' σ H Q → t σ H Q) : PE X e t' := ⟨fun pins s σ H Q I q => h.run pins s σ H Q I (k σ H Q q)⟩
theorem PT.wk {X : Cx} {e : Expr} {t t' : TT} (h : PT X e t) (k : ∀ σ H Q, t' σ H Q → t σ H Q) : PT X e t' := ⟨fun pins s σ H Q I q => h.run pins s σ H Q I (k σ H Q q)⟩
theorem PW.wk {X : Cx} {e : Expr} {t t' : TT} (h : PW X e t) (k : ∀ σ H Q, t' σ H Q → t σ H Q) : PW X e t' := ⟨fun wh pins s σ H Q I q => h.run wh pins s σ H Q I (k σ H Q q)⟩
theorem PA.wk {X : Cx} {es : List Expr} {t t' : TA} (h : PA X es t) (k : ∀ σ H Q, t' σ H Q → t σ H Q) : PA X es t' := ⟨fun pos pins s σ H Q I q => h.run pos pins s σ H Q I (k σ H Q q)⟩
theorem PS.wk {X : Cx} {st : Stmt} {t t' : TS} (h : PS X st t) (k : ∀ D σ H, t' D σ H → t D σ H) : PS X st t' := ⟨fun pins s σ H D I q => h.run pins s σ H D I (k D σ H q)⟩
theorem PSs.wk {X : Cx} {st : List Stmt} {t t' : TS} (h : PSs X st t) (k : ∀ D σ H, t' D σ H → t D σ H) : PSs X st t' := ⟨fun pins s σ H D I q => h.run pins s σ H D I (k D σ H q)⟩
theorem PI.wk {X : Cx} {tg iter : Expr} {t t' : TI} (h : PI X tg iter t) (k : ∀ σ H R, t' σ H R → t σ H R) : PI X tg iter t' := ⟨fun pins s σ H R I q => h.run pins s σ H R I (k σ H R q)⟩

/-! ### operations on values -/
section
variable (K : PySem.W.Frag) (w : World)
/-- what is wanted of an operation's result -/
def onV (W H : Hp) (o : Option D) (Q : VK) : Prop := match o with
  | some z => ∀ W' H' v, Ex W H W' H' → Rep K w W' z v → Q v H'
  | none => False
def tV1 (op : D → Option D) : V → Hp → VK → Prop := fun v H Q => ∃ W x, Same W H ∧ Rep K w W x v ∧ onV K w W H (op x) Q
def tV2 (op : D → D → Option D) : V → V → Hp → VK → Prop := fun v u H Q => ∃ W x y, Same W H ∧ Rep K w W x v ∧ Rep K w W y u ∧ onV K w W H (op x y) Q
def tVn (op : List D → Option D) : List V → Hp → VK → Prop := fun vs H Q => ∃ W xs, Same W H ∧ RepL K w W xs vs ∧ onV K w W H (op xs) Q
end
def liftO {α : Type} (o : Option α) (env : Ev) : Out (α × Ev) := match o with
  | some d => .ok (d, env)
  | none => .bad
@[simp] theorem liftO_some {α : Type} (d : α) (env : Ev) : liftO (some d) env = .ok (d, env) := rfl
@[simp] theorem liftO_none {α : Type} (env : Ev) : liftO (none : Option α) env = .bad := rfl
section
variable {X : Cx} {Wx : WX} {ρ : Nat → Addr} {σ : L2.St} {W H : Hp} {A : List (List Addr)} {env : Ev} {Q : VK}
/-- .. in the slots' picture -/
theorem onV_of {o : Option D} (S : SR X.K X.w ρ W H env σ A) (h : onX X Wx ρ σ W H A (liftO o env) Q) : onV X.K X.w W H o Q := by
  cases o with
  | none => exact h
  | some z => exact fun W' H' v e r => h W' H' A v (S.ex e) (e.fr _) r
end

def xConst (d : D) : XF := fun env => .ok (d, env)
def x1 (op : D → Option D) (f : XF) : XF := fun env => (f env).bind fun r => liftO (op r.1) r.2
def x2 (op : D → D → Option D) (f g : XF) : XF := fun env => (f env).bind fun r => (g r.2).bind fun q => liftO (op r.1 q.1) q.2
def aNil : AF := fun env => .ok ([], env)
def aCons (f : XF) (g : AF) : AF := fun env => (f env).bind fun r => (g r.2).bind fun q => .ok (r.1 :: q.1, q.2)
def xn (op : List D → Option D) (f : AF) : XF := fun env => (f env).bind fun r => liftO (op r.1) r.2

section
variable {X : Cx} {Wx : WX} {a b : Expr} {f g : XF} {pos : Pos}
theorem ex_un {op : UnaryOp} {o : D → Option D} (ho : UnR X (unaryOp op) (tV1 X.K X.w o)) (ha : EX X Wx a f) : EX X Wx (.UnaryOp op a pos) (x1 o f) := by
  refine PE.wk (pe_un ho ha) ?_
  rintro σ H Q ⟨ρ, W, env, A, S, h⟩
  exact tG_then S h fun d W1 H1 env1 A1 v S1 F1 r1 h1 => ⟨W1, d, S1.sub, r1, onV_of S1 h1⟩
theorem x2_read {r : V → V → Hp → VK → Prop} {o : D → D → Option D} {σ : L2.St} {H : Hp} {Q : VK} (k : ∀ v u H Q, tV2 X.K X.w o v u H Q → r v u H Q) (h : tX X Wx (x2 o f g) σ H Q) : tOp r (tX X Wx f) (tX X Wx g) σ H Q := by
  obtain ⟨ρ, W, env, A, S, h⟩ := h
  refine tG_then S h fun d W1 H1 env1 A1 v S1 F1 r1 h1 => ?_
  refine tG_then S1 h1 fun d2 W2 H2 env2 A2 u S2 F2 r2 h2 => ?_
  exact k _ _ _ _ ⟨W2, d, d2, S2.sub, Rep.mono F2.ext d v r1, r2, onV_of S2 h2⟩
theorem ex_bin {op : Operator} {o : D → D → Option D} (ho : OpR X (binaryOp op) (tV2 X.K X.w o)) (ha : EX X Wx a f) (hb : EX X Wx b g) : EX X Wx (.BinOp a op b pos) (x2 o f g) :=
  PE.wk (pe_op ho ha hb) fun σ H Q h => x2_read (fun _ _ _ _ q => q) h
theorem ex_cmp {op : CmpOp} {o : D → D → Option D} (ho : OpR X (compareOp op) (tV2 X.K X.w o)) (ha : EX X Wx a f) (hb : EX X Wx b g) (hm : behindInMarks op b = false := by first | exact nomark _ | rfl) : EX X Wx (.Compare a [op] [b] pos) (x2 o f g) :=
  PE.wk (pe_cmpR ho ha hb hm) fun σ H Q h => x2_read (fun _ _ _ _ q => q) h
theorem ea_nil : EA X Wx [] aNil := by
  refine PA.wk pa_nil ?_
  rintro σ H Q ⟨ρ, W, env, A, S, h⟩
  exact h W H A [] S (Fr.refl _ _ _) RepL.nil
theorem ea_cons {es : List Expr} {g : AF} (ha : EX X Wx a f) (hr : EA X Wx es g) (hs : starEach (a :: es) X.env = (false, eval a X.env) :: starEach es X.env := by rfl) : EA X Wx (a :: es) (aCons f g) := by
  refine PA.wk (pa_cons ha hr hs) ?_
  rintro σ H Q ⟨ρ, W, env, A, S, h⟩
  refine tG_then S h fun d W1 H1 env1 A1 v S1 F1 r1 h1 => ?_
  refine tG_then S1 h1 fun ds W2 H2 env2 A2 vs S2 F2 r2 h2 => ?_
  exact h2 W2 H2 A2 _ S2 (Fr.refl _ _ _) (RepL.cons (Rep.mono F2.ext d v r1) r2)
/-- a frozen slot -/
def xVar (i : Nat) : XF := fun env => match env[i]? with
  | some (.fz d) => .ok (d, env)
  | some (.ow _ c) => .ok (c, env.set i (.fz c))
  | _ => .bad
theorem Own.lay {K : PySem.W.Frag} {w : World} {W H : Hp} {c : D} {p : Addr} (h : Own K w W H c p) (e : Same W H) (n : W p = none) : ∃ o, H p = some o ∧ Rep K w (upd W p o) c (.ref p) ∧ Same (L2.upd W p o) H := by
  have sm : ∀ o, Same W (L2.upd W p o) := fun o b u q => by rw [upd_ne (ne_of_none q n)]; exact q
  have sH : ∀ o, H p = some o → Same (L2.upd W p o) H := fun o ho b u q => by
    by_cases hb : b = p
    · subst hb; rw [upd_same] at q; rw [ho]; exact q
    · rw [upd_ne hb] at q; exact e _ _ q
  cases c with
  | list ds =>
    obtain ⟨vs, h1, h2⟩ := h
    refine ⟨_, h1, ?_, sH _ h1⟩
    simp only [Rep]
    exact ⟨p, vs, rfl, upd_same, RepL.mono (sm _) ds vs h2⟩
  | dict kvs =>
    obtain ⟨es, ep, h1, h2, h3⟩ := h
    refine ⟨_, h1, ?_, sH _ h1⟩
    simp only [Rep]
    exact ⟨p, es, ep, rfl, upd_same, RepKV.mono (sm _) kvs _ h2, h3⟩
  | _ => exact h.elim
theorem ex_var {i : Nat} {x : Str} (h : PE X (.Name x pos) (tVar i)) : EX X Wx (.Name x pos) (xVar i) := by
  refine PE.wk h ?_
  rintro σ H Q ⟨ρ, W, env, A, S, h⟩
  unfold xVar at h
  cases e : env[i]? with
  | none => rw [e] at h; exact h.elim
  | some sl =>
    rw [e] at h
    obtain ⟨v, l, h1, h2, h3⟩ := S.at e
    cases sl with
    | no => exact h.elim
    | sc ns => exact h.elim
    | nd kvs => exact h.elim
    | xe d => exact h.elim
    | fz d =>
      obtain ⟨_, x, rfl, r⟩ := h3
      exact ⟨x, h1, h W H A x S (Fr.refl _ _ _) r⟩
    | ow t c =>
      obtain ⟨p, rfl, rfl, q3, q4, _⟩ := h3
      obtain ⟨o, ho, r, sb⟩ := q4.lay S.sub q3
      refine ⟨.ref p, h1, ?_⟩
      have hl : i < σ.length := (List.getElem?_eq_some_iff.mp h1).1
      have sm : Same W (upd W p o) := fun b u q => by rw [upd_ne (ne_of_none q q3)]; exact q
      have S1 : SR X.K X.w ρ (upd W p o) H (env.set i (.fz c)) σ (A.set i []) := by
        have S2 : SR X.K X.w ρ W H (env.set i .no) (σ.set i (some (.ref p))) (A.set i []) := S.setNo i _
        have es : σ.set i (some (V.ref p)) = σ := by
          refine List.ext_getElem? fun j => ?_
          by_cases hj : j = i
          · subst hj; rw [List.getElem?_set_self hl, h1]
          · rw [List.getElem?_set_ne (Ne.symm hj)]
        rw [es] at S2
        have S3 : SR X.K X.w ρ (upd W p o) H (env.set i .no) σ (A.set i []) := by
          refine S2.keep sm sb fun b hb => ⟨rfl, ?_⟩
          have hbp : b ≠ p := by
            rintro rfl
            obtain ⟨j, m, hj, hm⟩ := hb
            rcases at_set hj with ⟨_, e⟩ | ⟨e1, e2⟩
            · subst e; cases hm
            · exact e1 (S.inj j i m [b] b e2 h2 hm (by simp))
          rw [upd_ne hbp]
          exact (S.own (ownd_nil hb)).1
        have S4 := S3.setFz i r
        rw [es] at S4
        simpa using S4
      refine h _ H _ _ S1 ⟨sm, fun _ _ q _ => q, fun b h5 h6 => ?_, fun b hb => .inl (ownd_nil hb)⟩ r
      by_cases hb : b = p
      · subst hb; exact .inl ⟨i, _, h2, by simp⟩
      · rw [upd_ne hb] at h5; exact absurd h6 h5
theorem ex_const {e : Expr} {d : D} {v : V} (h : PE X e (tC v)) (r : ∀ W, Rep X.K X.w W d v) : EX X Wx e (xConst d) := by
  refine PE.wk h ?_
  rintro σ H Q ⟨ρ, W, env, A, S, h⟩
  exact h W H A v S (Fr.refl _ _ _) (r W)
end
end DP
set_option Elab.async false
set_option linter.all false
set_option maxRecDepth 100000
/-! DP, part 4: operators by values. -/
namespace DP
open PySem PySem.Spec PyProof.Rows L2

/-! ### arithmetic -/
def addD : D → D → Option D
  | .int i, .int j => some (.int (i + j))
  | .str x, .str y => if x.length + y.length ≤ sizeLine then some (.str (x ++ y)) else none
  | .list xs, .list ys => if xs.length + ys.length ≤ sizeLine then some (.list (xs ++ ys)) else none
  | .tuple xs, .tuple ys => if xs.length + ys.length ≤ sizeLine then some (.tuple (xs ++ ys)) else none
  | _, _ => none
def subD : D → D → Option D
  | .int i, .int j => some (.int (i - j))
  | _, _ => none
/-- within 2^64 -/
def s64 (i : Int) : Bool := decide (-(2 ^ 64) < i) && decide (i < 2 ^ 64)
def mulD : D → D → Option D
  | .int i, .int j => if s64 i || s64 j then some (.int (i * j)) else none
  | .list xs, .int j => if s64 j && decide (-(2 ^ 63) ≤ j) && decide (j < 2 ^ 63) && decide (xs.length * j.toNat ≤ sizeLine) then some (.list (List.replicate j.toNat xs).flatten) else none
  | _, _ => none
def fdivD : D → D → Option D
  | .int i, .int j => if j ≠ 0 ∧ j.natAbs < 1073741824 then some (.int (i.fdiv j)) else none
  | _, _ => none
def modD : D → D → Option D
  | .int i, .int j => if j ≠ 0 then some (.int (i.fmod j)) else none
  | _, _ => none
def powD : D → D → Option D
  | .int i, .int j => if 0 ≤ j ∧ j ≤ 1000000 ∧ i.natAbs < 2 ^ 64 then some (.int (i ^ j.toNat)) else none
  | _, _ => none
def negD : D → Option D
  | .int i => some (.int (-i))
  | _ => none

section
variable {X : Cx} {W H : Hp} {Q : VK} {K : PySem.W.Frag} {w : World}
/-- a result that needs no object -/
theorem onV.flat {z : D} {v : V} (h : onV K w W H (some z) Q) (s : Same W H) (r : Rep K w W z v) : Q v H := h W H v (Ex.refl s) r
/-- a new list -/
theorem onV.lst {zs : List D} {vs : List V} {p : Addr} (h : onV K w W H (some (.list zs)) Q) (s : Same W H) (r : RepL K w W zs vs) (n : H p = none) : Q (.ref p) (upd H p (.lst vs)) := by
  have e := Ex.one (o := .lst vs) s n
  refine h _ _ _ e ?_
  simp only [Rep]
  exact ⟨p, vs, rfl, upd_same, RepL.mono e.ext _ _ r⟩
theorem onV.tup {zs : List D} {vs : List V} {p : Addr} (h : onV K w W H (some (.tuple zs)) Q) (s : Same W H) (r : RepL K w W zs vs) (n : H p = none) : Q (.ref p) (upd H p (.tup vs)) := by
  have e := Ex.one (o := .tup vs) s n
  refine h _ _ _ e ?_
  simp only [Rep]
  exact ⟨p, vs, rfl, .of upd_same, RepL.mono e.ext _ _ r⟩
theorem OpR.wk {f : Value → Value → Sem Value} {r r' : R2} (h : OpR X f r) (k : ∀ x y H Q, r' x y H Q → r x y H Q) : OpR X f r' := fun pins s σ H x y v u Q I r1 r2 q => h pins s σ H x y v u Q I r1 r2 (k _ _ _ _ q)
theorem UnR.wk {f : Value → Sem Value} {r r' : V → Hp → VK → Prop} (h : UnR X f r) (k : ∀ x H Q, r' x H Q → r x H Q) : UnR X f r' := fun pins s σ H x v Q I r1 q => h pins s σ H x v Q I r1 (k _ _ _ q)
theorem CallR.wk {f : Value} {r r' : List V → Hp → VK → Prop} (h : CallR X f r) (k : ∀ x H Q, r' x H Q → r x H Q) : CallR X f r' := fun pins s σ H x v Q I r1 q => h pins s σ H x v Q I r1 (k _ _ _ q)

theorem RepL.rep {ds : List D} {vs : List V} (h : RepL K w W ds vs) : ∀ n : Nat, RepL K w W (List.replicate n ds).flatten (List.replicate n vs).flatten
  | 0 => RepL.nil
  | n + 1 => by
    rw [List.replicate_succ, List.replicate_succ, List.flatten_cons, List.flatten_cons]
    exact h.append (RepL.rep h n)
theorem op_addD : OpR X (binaryOp .Add) (tV2 X.K X.w addD) := by
  refine OpR.wk (OpR.or op_add (OpR.or op_add_str (OpR.or op_cat op_catA))) ?_
  rintro v u H Q ⟨W, x, y, s, r1, r2, h⟩
  unfold addD at h
  split at h
  · simp only [Rep] at r1 r2
    subst r1 r2
    exact .inl ⟨_, _, rfl, rfl, h.flat s rfl⟩
  · simp only [Rep] at r1 r2
    subst r1 r2
    split at h
    · rename_i c
      exact .inr (.inl ⟨_, _, rfl, rfl, c, h.flat s rfl⟩)
    · exact h.elim
  · simp only [Rep] at r1 r2
    obtain ⟨a, vs, rfl, q1, l1⟩ := r1
    obtain ⟨b, us, rfl, q2, l2⟩ := r2
    split at h
    · rename_i c
      refine .inr (.inr (.inl ⟨a, b, vs, us, rfl, rfl, s _ _ q1, s _ _ q2, by rw [l1.len, l2.len]; exact c, fun p n => ?_⟩))
      exact h.lst s (l1.append l2) n
    · exact h.elim
  · simp only [Rep] at r1 r2
    obtain ⟨a, vs, rfl, q1, l1⟩ := r1
    obtain ⟨b, us, rfl, q2, l2⟩ := r2
    split at h
    · rename_i c
      refine .inr (.inr (.inr ⟨a, b, vs, us, rfl, rfl, Same.sqt s q1, Same.sqt s q2, by rw [l1.len, l2.len]; exact c, fun z => ?_, fun _ z => ?_, fun _ _ p n => ?_⟩))
      · subst z
        have z := l1.len
        have z : _ = [] := List.eq_nil_of_length_eq_zero z.symm
        subst z
        refine h.flat s ?_
        simp only [Rep, List.nil_append]
        exact ⟨b, us, rfl, q2, l2⟩
      · subst z
        have z := l2.len
        have z : _ = [] := List.eq_nil_of_length_eq_zero z.symm
        subst z
        refine h.flat s ?_
        simp only [Rep, List.append_nil]
        exact ⟨a, vs, rfl, q1, l1⟩
      · exact h.tup s (l1.append l2) n
    · exact h.elim
  · exact h.elim
theorem op_subD : OpR X (binaryOp .Sub) (tV2 X.K X.w subD) := by
  refine OpR.wk op_sub ?_
  rintro v u H Q ⟨W, x, y, s, r1, r2, h⟩
  unfold subD at h
  split at h
  · simp only [Rep] at r1 r2
    subst r1 r2
    exact ⟨_, _, rfl, rfl, h.flat s rfl⟩
  · exact h.elim
theorem s64_iff {i : Int} : s64 i = true ↔ -(2 ^ 64) < i ∧ i < 2 ^ 64 := by simp [s64]
theorem op_mulD : OpR X (binaryOp .Mult) (tV2 X.K X.w mulD) := by
  refine OpR.wk (OpR.or op_mul op_rep) ?_
  rintro v u H Q ⟨W, x, y, s, r1, r2, h⟩
  unfold mulD at h
  split at h
  · simp only [Rep] at r1 r2
    subst r1 r2
    split at h
    · rename_i c
      rw [Bool.or_eq_true, s64_iff, s64_iff] at c
      exact .inl ⟨_, _, rfl, rfl, c, h.flat s rfl⟩
    · exact h.elim
  · simp only [Rep] at r1 r2
    obtain ⟨a, vs, rfl, q1, l1⟩ := r1
    subst r2
    split at h
    · rename_i c
      simp only [Bool.and_eq_true, decide_eq_true_eq] at c
      refine .inr ⟨a, _, vs, rfl, rfl, s _ _ q1, c.1.1.2, c.1.2, by rw [l1.len]; exact c.2, fun p n => ?_⟩
      exact h.lst s (RepL.rep l1 _) n
    · exact h.elim
  · exact h.elim
theorem op_fdivD : OpR X (binaryOp .FloorDiv) (tV2 X.K X.w fdivD) := by
  refine OpR.wk op_fdivN ?_
  rintro v u H Q ⟨W, x, y, s, r1, r2, h⟩
  unfold fdivD at h
  split at h
  · simp only [Rep] at r1 r2
    subst r1 r2
    split at h
    · rename_i c
      exact ⟨_, _, rfl, rfl, c, h.flat s rfl⟩
    · exact h.elim
  · exact h.elim
theorem op_modD : OpR X (binaryOp .Mod) (tV2 X.K X.w modD) := by
  refine OpR.wk op_modN ?_
  rintro v u H Q ⟨W, x, y, s, r1, r2, h⟩
  unfold modD at h
  split at h
  · simp only [Rep] at r1 r2
    subst r1 r2
    split at h
    · rename_i c
      exact ⟨_, _, rfl, rfl, c, h.flat s rfl⟩
    · exact h.elim
  · exact h.elim
theorem op_powD : OpR X (binaryOp .Pow) (tV2 X.K X.w powD) := by
  refine OpR.wk op_pow ?_
  rintro v u H Q ⟨W, x, y, s, r1, r2, h⟩
  unfold powD at h
  split at h
  · simp only [Rep] at r1 r2
    subst r1 r2
    split at h
    · rename_i c
      exact ⟨_, _, rfl, rfl, c, h.flat s rfl⟩
    · exact h.elim
  · exact h.elim
theorem un_negD : UnR X (unaryOp .USub) (tV1 X.K X.w negD) := by
  refine UnR.wk un_neg ?_
  rintro v H Q ⟨W, x, s, r1, h⟩
  unfold negD at h
  split at h
  · simp only [Rep] at r1
    subst r1
    exact ⟨_, rfl, h.flat s rfl⟩
  · exact h.elim
/-! ### comparisons -/
/-- how deep data may be where it is compared -/
def okD (x y : D) : Bool := decide (min x.depth y.depth ≤ 60)
def eqD (x y : D) : Option D := if x.plain && y.plain && okD x y then some (.bool (x.eqv y)) else none
def neD (x y : D) : Option D := if x.plain && y.plain && okD x y then some (.bool (!x.eqv y)) else none
def notNone : D → Bool
  | .none => false
  | _ => true
def ltD (x y : D) : Option D := if PySem.W.alike x y && notNone x && okD x y then some (.bool (PySem.W.dataLt x y)) else none
def gtD (x y : D) : Option D := if PySem.W.alike x y && notNone x && okD x y then some (.bool (PySem.W.dataLt y x)) else none
def leD (x y : D) : Option D := if PySem.W.alike x y && notNone x && okD x y then some (.bool (!PySem.W.dataLt y x)) else none
def geD (x y : D) : Option D := if PySem.W.alike x y && notNone x && okD x y then some (.bool (!PySem.W.dataLt x y)) else none
theorem notNone_ne {x : D} (h : notNone x = true) : x ≠ .none := fun e => by subst e; cases h
theorem op_cmpD {op : CmpOp} {o : D → D → Option D} {b : D → D → Bool} (ho : ∀ x y z, o x y = some z → z = .bool (b x y))
    (rule : ∀ (s : Shared) (x y z : D) (u v : Value) (as bs : List Addr) (Q : Value → Shared → Prop), o x y = some z → Reads s.heap u x as → Reads s.heap v y bs → Q (.bool (b x y)) s → wpAny (model X.prog X.w) X.A (compareOp op u v) Q X.xe s) :
    OpR X (compareOp op) (tV2 X.K X.w o) := by
  intro pins s σ H vx vy u v Q I rx ry h
  obtain ⟨W, x, y, sm, r1, r2, h⟩ := h
  obtain ⟨as, ra⟩ := Rep.reads I sm x vx u r1 rx
  obtain ⟨bs, rb⟩ := Rep.reads I sm y vy v r2 ry
  cases e : o x y with
  | none => rw [e] at h; exact h.elim
  | some z =>
    rw [e] at h
    have ez := ho _ _ _ e
    subst ez
    exact rule s x y _ u v as bs _ e ra rb ⟨.bl _, H, I, rfl, h.flat sm rfl⟩
theorem op_eqD' (hu : X.A.units + 64 < cLine) : OpR X (compareOp .Eq) (tV2 X.K X.w eqD) := by
  refine op_cmpD (b := fun x y => x.eqv y) (fun x y z e => ?_) fun s x y z u v as bs Q e ra rb h => ?_
  · unfold eqD at e; split at e <;> cases e; rfl
  · unfold eqD at e
    split at e
    · rename_i c
      simp only [Bool.and_eq_true, okD, decide_eq_true_eq] at c
      exact PySem.SeqAt.eq_plain ra rb c.1.1 c.1.2 (by omega) h
    · cases e
theorem op_neD' (hu : X.A.units + 64 < cLine) : OpR X (compareOp .NotEq) (tV2 X.K X.w neD) := by
  refine op_cmpD (b := fun x y => !x.eqv y) (fun x y z e => ?_) fun s x y z u v as bs Q e ra rb h => ?_
  · unfold neD at e; split at e <;> cases e; rfl
  · unfold neD at e
    split at e
    · rename_i c
      simp only [Bool.and_eq_true, okD, decide_eq_true_eq] at c
      exact PySem.SeqAt.ne_plain ra rb c.1.1 c.1.2 (by omega) h
    · cases e
theorem op_ltD (hu : X.A.units + 64 < cLine) : OpR X (compareOp .Lt) (tV2 X.K X.w ltD) := by
  refine op_cmpD (b := fun x y => PySem.W.dataLt x y) (fun x y z e => ?_) fun s x y z u v as bs Q e ra rb h => ?_
  · unfold ltD at e; split at e <;> cases e; rfl
  · unfold ltD at e
    split at e
    · rename_i c
      simp only [Bool.and_eq_true, okD, decide_eq_true_eq] at c
      exact PySem.W.lt_data ra rb c.1.1 (notNone_ne c.1.2) (by omega) h
    · cases e
theorem op_gtD (hu : X.A.units + 64 < cLine) : OpR X (compareOp .Gt) (tV2 X.K X.w gtD) := by
  refine op_cmpD (b := fun x y => PySem.W.dataLt y x) (fun x y z e => ?_) fun s x y z u v as bs Q e ra rb h => ?_
  · unfold gtD at e; split at e <;> cases e; rfl
  · unfold gtD at e
    split at e
    · rename_i c
      simp only [Bool.and_eq_true, okD, decide_eq_true_eq] at c
      exact PySem.W.gt_data ra rb c.1.1 (notNone_ne c.1.2) (by omega) h
    · cases e
theorem op_leD (hu : X.A.units + 64 < cLine) : OpR X (compareOp .LtE) (tV2 X.K X.w leD) := by
  refine op_cmpD (b := fun x y => !PySem.W.dataLt y x) (fun x y z e => ?_) fun s x y z u v as bs Q e ra rb h => ?_
  · unfold leD at e; split at e <;> cases e; rfl
  · unfold leD at e
    split at e
    · rename_i c
      simp only [Bool.and_eq_true, okD, decide_eq_true_eq] at c
      exact PySem.W.le_data ra rb c.1.1 (notNone_ne c.1.2) (by omega) h
    · cases e
theorem op_geD (hu : X.A.units + 64 < cLine) : OpR X (compareOp .GtE) (tV2 X.K X.w geD) := by
  refine op_cmpD (b := fun x y => !PySem.W.dataLt x y) (fun x y z e => ?_) fun s x y z u v as bs Q e ra rb h => ?_
  · unfold geD at e; split at e <;> cases e; rfl
  · unfold geD at e
    split at e
    · rename_i c
      simp only [Bool.and_eq_true, okD, decide_eq_true_eq] at c
      exact PySem.W.ge_data ra rb c.1.1 (notNone_ne c.1.2) (by omega) h
    · cases e
end
end DP
set_option Elab.async false
set_option linter.all false
set_option maxRecDepth 100000
/-! DP, part 5: tests, statements, targets, loops. -/
namespace DP
open PySem PySem.Spec PyProof.Rows L2

/-! ### tests -/
def asB (r : D × Ev) : Out (Bool × Ev) := match r.1 with
  | .bool b => .ok (b, r.2)
  | _ => .bad
@[simp] theorem asB_bool (b : Bool) (e : Ev) : asB (.bool b, e) = .ok (b, e) := rfl
def tst (f : XF) : TF := fun env => (f env).bind asB
def tNotF (f : TF) : TF := fun env => (f env).bind fun r => .ok (!r.1, r.2)
def tAndF (f g : TF) : TF := fun env => (f env).bind fun r => if r.1 = true then g r.2 else .ok (false, r.2)
def tOrF (f g : TF) : TF := fun env => (f env).bind fun r => if r.1 = true then .ok (true, r.2) else g r.2
def xIf (c : TF) (f g : XF) : XF := fun env => (c env).bind fun r => if r.1 = true then f r.2 else g r.2
/-- and, or, not as values -/
def xBool (f : TF) : XF := fun env => (f env).bind fun r => .ok (.bool r.1, r.2)

section
variable {X : Cx} {Wx : WX} {a b c : Expr} {f g : XF} {tf tg : TF} {rest : List Expr} {pos : Pos}
theorem et_val (h : EX X Wx a f) (he : ∀ whole, isTrue a X.env whole = (do let v ← whole; standAt a.pos; holding [v] (truthy v)) := by intro _; rfl) : ET X Wx a (tst f) := by
  refine PT.wk (pt_val h he) ?_
  rintro σ H Q ⟨ρ, W, env, A, S, h⟩
  refine tG_then S h fun d W1 H1 env1 A1 v S1 F1 r1 h1 => ?_
  unfold asB at h1
  split at h1
  · rename_i b e
    simp only at e
    subst e
    simp only [Rep] at r1
    exact ⟨b, r1, h1 W1 H1 A1 b S1 (Fr.refl _ _ _) rfl⟩
  · exact h1.elim
theorem et_not (h : ET X Wx a tf) : ET X Wx (.UnaryOp .Not a pos) (tNotF tf) := by
  refine PT.wk (pt_not h) ?_
  rintro σ H Q ⟨ρ, W, env, A, S, h⟩
  refine tG_then S h fun d W1 H1 env1 A1 v S1 F1 r1 h1 => ?_
  subst r1
  exact h1 W1 H1 A1 _ S1 (Fr.refl _ _ _) rfl
theorem ew_and1 (h : ET X Wx a tf) : PW X (.BoolOp .And [a] pos) (tT X Wx tf) := pw_and1 h
theorem ew_or1 (h : ET X Wx a tf) : PW X (.BoolOp .Or [a] pos) (tT X Wx tf) := pw_or1 h
theorem ew_and (h : ET X Wx a tf) (k : PW X (.BoolOp .And (b :: rest) pos) (tT X Wx tg)) : PW X (.BoolOp .And (a :: b :: rest) pos) (tT X Wx (tAndF tf tg)) := by
  refine PW.wk (pw_and h k) ?_
  rintro σ H Q ⟨ρ, W, env, A, S, h⟩
  refine tG_then S h fun d W1 H1 env1 A1 v S1 F1 r1 h1 => ?_
  subst r1
  cases v with
  | true => exact iteT ⟨ρ, W1, env1, A1, S1, h1⟩
  | false => exact iteF (h1 W1 H1 A1 _ S1 (Fr.refl _ _ _) rfl)
theorem ew_or (h : ET X Wx a tf) (k : PW X (.BoolOp .Or (b :: rest) pos) (tT X Wx tg)) : PW X (.BoolOp .Or (a :: b :: rest) pos) (tT X Wx (tOrF tf tg)) := by
  refine PW.wk (pw_or h k) ?_
  rintro σ H Q ⟨ρ, W, env, A, S, h⟩
  refine tG_then S h fun d W1 H1 env1 A1 v S1 F1 r1 h1 => ?_
  subst r1
  cases v with
  | true => exact iteT (h1 W1 H1 A1 _ S1 (Fr.refl _ _ _) rfl)
  | false => exact iteF ⟨ρ, W1, env1, A1, S1, h1⟩
theorem et_bool (h : PW X a (tT X Wx tf)) : ET X Wx a tf := h.pt
theorem ex_if (hc : ET X Wx c tf) (ha : EX X Wx a f) (hb : EX X Wx b g) : EX X Wx (.IfExp c a b pos) (xIf tf f g) := by
  refine PE.wk (pe_ifExp hc ha hb) ?_
  rintro σ H Q ⟨ρ, W, env, A, S, h⟩
  refine tG_then S h fun d W1 H1 env1 A1 v S1 F1 r1 h1 => ?_
  subst r1
  cases v with
  | true => exact iteT ⟨ρ, W1, env1, A1, S1, h1⟩
  | false => exact iteF ⟨ρ, W1, env1, A1, S1, h1⟩
/-- and, or, not as values: all of them bools -/
theorem ex_one {op : BoolOp} (h : EX X Wx a f) : EX X Wx (.BoolOp op [a] pos) (xBool (tst f)) := by
  refine PE.wk (pe_one h) ?_
  rintro σ H Q ⟨ρ, W, env, A, S, h⟩
  unfold xBool tst at h
  refine ⟨ρ, W, env, A, S, ?_⟩
  cases e : f env with
  | bad => rw [e] at h; exact h.elim
  | exc c d e' => rw [e] at h; exact h
  | ok r =>
    obtain ⟨d, e1⟩ := r
    rw [e] at h
    cases d with
    | bool b => exact h
    | _ => exact h.elim
theorem xb_then {R : Hp → Bool → Bool → Prop} {ρ : Nat → Addr} {σ : L2.St} {W H : Hp} {A : List (List Addr)} {env : Ev} {k : Bool × Ev → Out (D × Ev)} {Q : VK} {Q' : VK}
    (S : SR X.K X.w ρ W H env σ A) (h : onX X Wx ρ σ W H A ((xBool tf env).bind fun r => match r.1 with | .bool b => k (b, r.2) | _ => .bad) Q)
    (n : ∀ b W1 H1 env1 A1, SR X.K X.w ρ W1 H1 env1 σ A1 → Fr W H (ownd A) W1 H1 (ownd A1) → onX X Wx ρ σ W1 H1 A1 (k (b, env1)) Q → Q' (.bl b) H1) : tX X Wx (xBool tf) σ H Q' := by
  refine tG_then S h fun d W1 H1 env1 A1 v S1 F1 r1 h1 => ?_
  cases d with
  | bool b =>
    simp only [Rep] at r1
    subst r1
    exact n b W1 H1 env1 A1 S1 F1 h1
  | _ => exact h1.elim
theorem ex_tst (h : EX X Wx a f) : EX X Wx a (xBool (tst f)) := by
  refine PE.wk h ?_
  rintro σ H Q ⟨ρ, W, env, A, S, h⟩
  unfold xBool tst at h
  refine ⟨ρ, W, env, A, S, ?_⟩
  cases e : f env with
  | bad => rw [e] at h; exact h.elim
  | exc c d e' => rw [e] at h; exact h
  | ok r =>
    obtain ⟨d, e1⟩ := r
    rw [e] at h
    cases d with
    | bool b => exact h
    | _ => exact h.elim
theorem ex_and (h : EX X Wx a f) (k : EX X Wx (.BoolOp .And (b :: rest) pos) (xBool tg)) : EX X Wx (.BoolOp .And (a :: b :: rest) pos) (xBool (tAndF (tst f) tg)) := by
  refine PE.wk (pe_and h k) ?_
  rintro σ H Q ⟨ρ, W, env, A, S, h⟩
  unfold xBool tAndF tst at h
  refine ⟨ρ, W, env, A, S, ?_⟩
  cases e : f env with
  | bad => rw [e] at h; exact h.elim
  | exc c d e' => rw [e] at h; exact h
  | ok r =>
    obtain ⟨d, e1⟩ := r
    rw [e] at h
    cases d with
    | bool b =>
      intro W' H' A' v S' F' r'
      simp only [Rep] at r'
      subst r'
      refine ⟨b, rfl, ?_⟩
      simp only [Out.bind_ok, asB] at h
      cases b with
      | true => exact iteT ⟨ρ, W', e1, A', S', onG_fr h F'⟩
      | false => exact iteF (h W' H' A' _ S' F' rfl)
    | _ => exact h.elim
theorem ex_or (h : EX X Wx a f) (k : EX X Wx (.BoolOp .Or (b :: rest) pos) (xBool tg)) : EX X Wx (.BoolOp .Or (a :: b :: rest) pos) (xBool (tOrF (tst f) tg)) := by
  refine PE.wk (pe_or h k) ?_
  rintro σ H Q ⟨ρ, W, env, A, S, h⟩
  unfold xBool tOrF tst at h
  refine ⟨ρ, W, env, A, S, ?_⟩
  cases e : f env with
  | bad => rw [e] at h; exact h.elim
  | exc c d e' => rw [e] at h; exact h
  | ok r =>
    obtain ⟨d, e1⟩ := r
    rw [e] at h
    cases d with
    | bool b =>
      intro W' H' A' v S' F' r'
      simp only [Rep] at r'
      subst r'
      refine ⟨b, rfl, ?_⟩
      simp only [Out.bind_ok, asB] at h
      cases b with
      | true => exact iteT (h W' H' A' _ S' F' rfl)
      | false => exact iteF ⟨ρ, W', e1, A', S', onG_fr h F'⟩
    | _ => exact h.elim
theorem ex_not (h : EX X Wx a f) : EX X Wx (.UnaryOp .Not a pos) (xBool (tNotF (tst f))) := by
  refine PE.wk (pe_not h) ?_
  rintro σ H Q ⟨ρ, W, env, A, S, h⟩
  unfold xBool tNotF tst at h
  refine ⟨ρ, W, env, A, S, ?_⟩
  cases e : f env with
  | bad => rw [e] at h; exact h.elim
  | exc c d e' => rw [e] at h; exact h
  | ok r =>
    obtain ⟨d, e1⟩ := r
    rw [e] at h
    cases d with
    | bool b =>
      intro W' H' A' v S' F' r'
      simp only [Rep] at r'
      subst r'
      exact ⟨b, rfl, h W' H' A' _ S' F' rfl⟩
    | _ => exact h.elim
/-- is None, is not None -/
def isNb : D → Bool
  | .none => true
  | _ => false
def isN (x : D) : Option D := some (.bool (isNb x))
def notN (x : D) : Option D := some (.bool (!isNb x))
theorem rep_non {K : PySem.W.Frag} {w : World} {W : Hp} {x : D} {v : V} (r : Rep K w W x v) : decide (v = .non) = isNb x := by
  cases x <;> simp only [Rep] at r
  · subst r; rfl
  · subst r; rfl
  · subst r; rfl
  · subst r; rfl
  · obtain ⟨a, vs, rfl, _⟩ := r; rfl
  · obtain ⟨a, vs, rfl, _⟩ := r; rfl
  · obtain ⟨a, es, ep, rfl, _⟩ := r; rfl
theorem ex_isN {j p2} (h : EX X Wx a f) : EX X Wx (.Compare a [.Is] [.Constant .none j p2] pos) (x1 isN f) := by
  refine PE.wk (pe_cmp (pc_isN h)) ?_
  rintro σ H Q ⟨ρ, W, env, A, S, h⟩
  refine tG_then S h fun d W1 H1 env1 A1 v S1 F1 r1 h1 => ?_
  rw [rep_non r1]
  exact (onV_of S1 h1).flat S1.sub rfl
theorem ex_notN {j p2} (h : EX X Wx a f) : EX X Wx (.Compare a [.IsNot] [.Constant .none j p2] pos) (x1 notN f) := by
  refine PE.wk (pe_cmp (pc_notN h)) ?_
  rintro σ H Q ⟨ρ, W, env, A, S, h⟩
  refine tG_then S h fun d W1 H1 env1 A1 v S1 F1 r1 h1 => ?_
  rw [rep_non r1]
  exact (onV_of S1 h1).flat S1.sub rfl
/-- a < b < c -/
def xChain (o o' : D → D → Option D) (f g k : XF) : XF := fun env => (f env).bind fun r => (g r.2).bind fun q => (liftO (o r.1 q.1) q.2).bind fun t => (asB t).bind fun t => if t.1 = true then (k t.2).bind fun u => (liftO (o' q.1 u.1) u.2).bind fun z => .ok z else .ok (.bool false, t.2)
end

/-! ### statements -/
inductive Fl where
  | nx
  | rt (d : D)
  | bk
  | ct
abbrev SF := Ev → Out (Fl × Ev)
def onS (X : Cx) (Wx : WX) (ρ : Nat → Addr) (W H : Hp) (A : List (List Addr)) (o : Out (Fl × Ev)) (D : Ends) : Prop :=
  match o with
  | .ok (fl, env') => ∀ W' H' A' σ', SR X.K X.w ρ W' H' env' σ' A' → Fr W H (ownd A) W' H' (ownd A') → match fl with
    | .nx => D.nx σ' H'
    | .bk => D.bk σ' H'
    | .ct => D.ct σ' H'
    | .rt d => ∀ v, Rep X.K X.w W' d v → D.rt v H'
  | .exc c d env' => ∀ C W' H' A' σ' dx v, X.mg c = some (.ref C) → SR X.K X.w ρ W' H' env' σ' A' → Fr W H (ownd A) W' H' (ownd A') → H' dx = some (.xd [("at", v)]) → Rep X.K X.w W' d v → Wx (.ref C) (some dx) σ' H'
  | .bad => False
def tS (X : Cx) (Wx : WX) (f : SF) : TS := fun D σ H => ∃ ρ W env A, SR X.K X.w ρ W H env σ A ∧ onS X Wx ρ W H A (f env) D
abbrev ES (X : Cx) (Wx : WX) (st : Stmt) (f : SF) : Prop := PS X st (tS X Wx f)
abbrev EB (X : Cx) (Wx : WX) (st : List Stmt) (f : SF) : Prop := PSs X st (tS X Wx f)
section
variable {X : Cx} {Wx : WX} {ρ : Nat → Addr} {σ : L2.St} {W H W1 H1 : Hp} {A A1 : List (List Addr)} {o : Out (Fl × Ev)} {D : Ends} {env : Ev}
theorem onS_fr (h : onS X Wx ρ W H A o D) (F : Fr W H (ownd A) W1 H1 (ownd A1)) : onS X Wx ρ W1 H1 A1 o D := by
  cases o with
  | ok r => exact fun W' H' A' σ' S' F' => h W' H' A' σ' S' (F.trans F')
  | exc c d e => exact fun C W' H' A' σ' dx v g S' F' x r' => h C W' H' A' σ' dx v g S' (F.trans F') x r'
  | bad => exact h
/-- an expression within a statement -/
theorem tS_then {α β : Type} {R : Hp → α → β → Prop} {f : Ev → Out (α × Ev)} {k : α × Ev → Out (Fl × Ev)} {Q' : β → Hp → Prop}
    (S : SR X.K X.w ρ W H env σ A) (h : onS X Wx ρ W H A ((f env).bind k) D)
    (n : ∀ d W1 H1 env1 A1 v, SR X.K X.w ρ W1 H1 env1 σ A1 → Fr W H (ownd A) W1 H1 (ownd A1) → R W1 d v → onS X Wx ρ W1 H1 A1 (k (d, env1)) D → Q' v H1) : tG X.K X.w X.mg Wx R f σ H Q' := by
  refine ⟨ρ, W, env, A, S, ?_⟩
  cases e : f env with
  | ok r =>
    rw [e, Out.bind_ok] at h
    obtain ⟨d, env1⟩ := r
    exact fun W1 H1 A1 v S1 F1 r1 => n d W1 H1 env1 A1 v S1 F1 r1 (onS_fr h F1)
  | exc c d e' =>
    rw [e, Out.bind_exc] at h
    exact fun C W' H' A' dx v g S' F' x r' => h C W' H' A' σ dx v g S' F' x r'
  | bad => rw [e, Out.bind_bad] at h; exact h.elim
end

def sNext : SF := fun env => .ok (.nx, env)
def sBrk : SF := fun env => .ok (.bk, env)
def sCont : SF := fun env => .ok (.ct, env)
def sSeq (f g : SF) : SF := fun env => (f env).bind fun r => match r.1 with
  | .nx => g r.2
  | fl => .ok (fl, r.2)
def sSet (i : Nat) (f : XF) : SF := fun env => (f env).bind fun r => .ok (.nx, r.2.set i (.fz r.1))
def sDrop (f : XF) : SF := fun env => (f env).bind fun r => .ok (.nx, r.2)
def sRet (f : XF) : SF := fun env => (f env).bind fun r => .ok (.rt r.1, r.2)
def sRetN : SF := fun env => .ok (.rt .none, env)
def sIf (c : TF) (f g : SF) : SF := fun env => (c env).bind fun r => if r.1 = true then f r.2 else g r.2
section
variable {X : Cx} {Wx : WX} {a b c e : Expr} {st : Stmt} {rest ss ss' : List Stmt} {f g : XF} {tf : TF} {u v : SF} {pos : Pos}
theorem es_nil : EB X Wx [] sNext := by
  refine PSs.wk pss_nil ?_
  rintro D σ H ⟨ρ, W, env, A, S, h⟩
  exact h W H A σ S (Fr.refl _ _ _)
theorem es_pass : ES X Wx (.Pass pos) sNext := by
  refine PS.wk ps_pass ?_
  rintro D σ H ⟨ρ, W, env, A, S, h⟩
  exact h W H A σ S (Fr.refl _ _ _)
theorem es_doc {x j p2} : ES X Wx (.Expr (.Constant (.str x) j p2) pos) sNext := by
  refine PS.wk ps_doc ?_
  rintro D σ H ⟨ρ, W, env, A, S, h⟩
  exact h W H A σ S (Fr.refl _ _ _)
theorem es_break : ES X Wx (.Break pos) sBrk := by
  refine PS.wk ps_break ?_
  rintro D σ H ⟨ρ, W, env, A, S, h⟩
  exact h W H A σ S (Fr.refl _ _ _)
theorem es_continue : ES X Wx (.Continue pos) sCont := by
  refine PS.wk ps_continue ?_
  rintro D σ H ⟨ρ, W, env, A, S, h⟩
  exact h W H A σ S (Fr.refl _ _ _)
theorem es_one (h : ES X Wx st u) : EB X Wx [st] u := pss_one h
theorem es_seq (h : ES X Wx st u) (k : EB X Wx rest v) : EB X Wx (st :: rest) (sSeq u v) := by
  refine PSs.wk (pss_cons h k) ?_
  rintro D σ H ⟨ρ, W, env, A, S, h⟩
  refine ⟨ρ, W, env, A, S, ?_⟩
  unfold sSeq at h
  cases e : u env with
  | bad => rw [e] at h; exact h.elim
  | exc c d e' => rw [e] at h; exact h
  | ok r =>
    rw [e, Out.bind_ok] at h
    obtain ⟨fl, e1⟩ := r
    cases fl with
    | nx => exact fun W' H' A' σ' S' F' => ⟨ρ, W', e1, A', S', onS_fr h F'⟩
    | rt d => exact h
    | bk => exact h
    | ct => exact h
theorem es_ret (h : EX X Wx e f) : ES X Wx (.Return (some e) pos) (sRet f) := by
  refine PS.wk (ps_ret h) ?_
  rintro D σ H ⟨ρ, W, env, A, S, h⟩
  exact tS_then S h fun d W1 H1 env1 A1 v S1 F1 r1 h1 => h1 W1 H1 A1 σ S1 (Fr.refl _ _ _) v r1
theorem es_retN : ES X Wx (.Return none pos) sRetN := by
  refine PS.wk ps_retN ?_
  rintro D σ H ⟨ρ, W, env, A, S, h⟩
  exact h W H A σ S (Fr.refl _ _ _) _ rfl
theorem es_if (hc : ET X Wx c tf) (ha : EB X Wx ss u) (hb : EB X Wx ss' v) : ES X Wx (.If c ss ss' pos) (sIf tf u v) := by
  refine PS.wk (ps_if hc ha hb) ?_
  rintro D σ H ⟨ρ, W, env, A, S, h⟩
  refine tS_then S h fun d W1 H1 env1 A1 b S1 F1 r1 h1 => ?_
  subst r1
  cases b with
  | true => exact iteT ⟨ρ, W1, env1, A1, S1, h1⟩
  | false => exact iteF ⟨ρ, W1, env1, A1, S1, h1⟩
theorem es_drop (h : EX X Wx e f) (hs : swapsWith e none pos.line X.env = pure false := by rfl) : ES X Wx (.Expr e pos) (sDrop f) := by
  refine PS.wk (ps_expr h hs) ?_
  rintro D σ H ⟨ρ, W, env, A, S, h⟩
  exact tS_then S h fun d W1 H1 env1 A1 v S1 F1 r1 h1 => h1 W1 H1 A1 σ S1 (Fr.refl _ _ _)
theorem fr_nil {W H : Hp} {A : List (List Addr)} (i : Nat) : Fr W H (ownd A) W H (ownd (A.set i [])) := ⟨Same.refl _, fun _ _ h _ => h, fun _ h1 h2 => absurd h2 h1, fun _ h => .inl (ownd_nil h)⟩
theorem es_set {i : Nat} {x : Str} {p2 : Pos} (hN : X.N.Nodup) (hi : X.N[i]? = some x) (hx : Loc X.env.scope x) (h : EX X Wx e f) (hs : swapsWith e (some (.Name x p2)) pos.line X.env = pure false := by rfl)
    (hf : X.fn x = true ∨ X.env.scope.names.lookup x = some .local := by first | exact .inl rfl | exact .inr rfl | assumption) : ES X Wx (.Assign [.Name x p2] e pos) (sSet i f) := by
  refine PS.wk (ps_set hN hi hx h hs hf) ?_
  rintro D σ H ⟨ρ, W, env, A, S, h⟩
  exact tS_then S h fun d W1 H1 env1 A1 v S1 F1 r1 h1 => h1 W1 H1 _ _ (S1.setFz i r1) (fr_nil i)
end

/-! ### targets -/
abbrev GF := D → Ev → Option Ev
abbrev GLF := List D → Ev → Option Ev
def gN (i : Nat) : GF := fun d env => some (env.set i (.fz d))
def glNil : GLF := fun ds env => match ds with
  | [] => some env
  | _ => none
def glCons (g : GF) (k : GLF) : GLF := fun ds env => match ds with
  | [] => none
  | d :: r => (g d env).bind (k r)
def gT (k : GLF) : GF := fun d env => match d with
  | .tuple ds => k ds env
  | _ => none
/-- alike but for the slots vs -/
def Agr (vs : List Nat) (σ σ' : L2.St) : Prop := σ'.length = σ.length ∧ ∀ j : Nat, j ∉ vs → σ'[j]? = σ[j]?
theorem Agr.refl (vs : List Nat) (σ : L2.St) : Agr vs σ σ := ⟨rfl, fun _ _ => rfl⟩
theorem Agr.set {i : Nat} {σ : L2.St} {x : Option V} : Agr [i] σ (σ.set i x) := ⟨by simp, fun j hj => List.getElem?_set_ne (fun e => hj (by simp [e]))⟩
theorem Agr.trans {vs us : List Nat} {σ σ1 σ2 : L2.St} (a : Agr vs σ σ1) (b : Agr us σ1 σ2) : Agr (vs ++ us) σ σ2 :=
  ⟨b.1.trans a.1, fun j hj => (b.2 j fun h => hj (List.mem_append_right _ h)).trans (a.2 j fun h => hj (List.mem_append_left _ h))⟩
theorem Agr.mono {vs us : List Nat} {σ σ1 : L2.St} (a : Agr vs σ σ1) (h : ∀ j ∈ vs, j ∈ us) : Agr us σ σ1 := ⟨a.1, fun j hj => a.2 j fun z => hj (h j z)⟩
section
variable (X : Cx)
def tGt (vs : List Nat) (g : GF) : TG := fun v σ H Q => ∃ ρ W env A d env', SR X.K X.w ρ W H env σ A ∧ Rep X.K X.w W d v ∧ g d env = some env' ∧ ∀ σ' A', SR X.K X.w ρ W H env' σ' A' → (∀ p, ownd A' p → ownd A p) → Agr vs σ σ' → Q σ' H
def tGl (vs : List Nat) (g : GLF) : TGs := fun us σ H Q => ∃ ρ W env A ds env', SR X.K X.w ρ W H env σ A ∧ RepL X.K X.w W ds us ∧ g ds env = some env' ∧ ∀ σ' A', SR X.K X.w ρ W H env' σ' A' → (∀ p, ownd A' p → ownd A p) → Agr vs σ σ' → Q σ' H
end
abbrev EG (X : Cx) (t : Expr) (vs : List Nat) (g : GF) : Prop := PG X t (tGt X vs g)
abbrev EGs (X : Cx) (ts : List Expr) (vs : List Nat) (g : GLF) : Prop := PGs X ts (tGl X vs g)
theorem PG.wk {X : Cx} {e : Expr} {t t' : TG} (h : PG X e t) (k : ∀ v σ H Q, t' v σ H Q → t v σ H Q) : PG X e t' := ⟨fun pins s σ H v u Q I r q => h.run pins s σ H v u Q I r (k v σ H Q q)⟩
theorem PGs.wk {X : Cx} {es : List Expr} {t t' : TGs} (h : PGs X es t) (k : ∀ v σ H Q, t' v σ H Q → t v σ H Q) : PGs X es t' := ⟨fun pins s σ H v u Q I r q => h.run pins s σ H v u Q I r (k v σ H Q q)⟩
section
variable {X : Cx} {Wx : WX} {e : Expr} {es : List Expr} {vs us : List Nat} {g : GF} {k : GLF} {pos : Pos} {f : XF}
theorem eg_name {i : Nat} {x : Str} (hN : X.N.Nodup) (hi : X.N[i]? = some x) (hx : Loc X.env.scope x) (hf : X.fn x = true ∨ X.env.scope.names.lookup x = some .local := by first | exact .inl rfl | exact .inr rfl | assumption) : EG X (.Name x pos) [i] (gN i) := by
  refine PG.wk (pg_name hN hi hx hf) ?_
  rintro v σ H Q ⟨ρ, W, env, A, d, env', S, r, e, q⟩
  cases e
  exact q _ _ (S.setFz i r) (fun p h => ownd_nil h) Agr.set
theorem egs_nil : EGs X [] [] glNil := by
  refine PGs.wk pgs_nil ?_
  rintro vs σ H Q ⟨ρ, W, env, A, ds, env', S, r, e, q⟩
  unfold glNil at e
  split at e
  · cases e
    simp only [RepL] at r
    exact ⟨r, q σ A S (fun _ h => h) (Agr.refl _ _)⟩
  · cases e
theorem egs_cons (h : EG X e vs g) (t : EGs X es us k) (hs : (assignEach (e :: es) X.env).map (·.2) = assign e X.env :: (assignEach es X.env).map (·.2) := by rfl) : EGs X (e :: es) (vs ++ us) (glCons g k) := by
  refine PGs.wk (pgs_cons h t hs) ?_
  rintro ws σ H Q ⟨ρ, W, env, A, ds, env', S, r, e, q⟩
  unfold glCons at e
  split at e
  · cases e
  · rename_i d r'
    simp only [RepL] at r
    obtain ⟨v, vr, rfl, r1, r2⟩ := r
    obtain ⟨env1, e1, e2⟩ := Option.bind_eq_some_iff.mp e
    refine ⟨v, vr, rfl, ρ, W, env, A, d, env1, S, r1, e1, fun σ1 A1 S1 p1 a1 => ?_⟩
    exact ⟨ρ, W, env1, A1, r', env', S1, r2, e2, fun σ2 A2 S2 p2 a2 => q σ2 A2 S2 (fun p h => p1 p (p2 p h)) (a1.trans a2)⟩
theorem eg_tup {j : Nat} {n : Nat} (hc : X.calm = true) (h : EGs X es vs k) (hk : ∀ ds env, (k ds env).isSome = true → ds.length = n) (hn : (assignEach es X.env).length = n := by rfl) (hst : (assignEach es X.env).findIdx? (·.1) = none := by rfl) : EG X (.Tuple es j pos) vs (gT k) := by
  refine PG.wk (pg_tup hc h hn hst) ?_
  rintro v σ H Q ⟨ρ, W, env, A, d, env', S, r, e, q⟩
  cases d with
  | tuple ds =>
    simp only [Rep] at r
    obtain ⟨a, vs, rfl, q1, r1⟩ := r
    have e' : k ds env = some env' := e
    have hl := hk ds env (by rw [e']; rfl)
    exact ⟨a, vs, rfl, Same.sqt S.sub q1, r1.len.trans hl, ρ, W, env, A, ds, env', S, r1, e, q⟩
  | _ => cases e
theorem glNil_len (ds : List D) (env : Ev) (h : (glNil ds env).isSome = true) : ds.length = 0 := by
  cases ds with
  | nil => rfl
  | cons _ _ => cases h
theorem glCons_len {g : GF} {k : GLF} {n : Nat} (hk : ∀ ds env, (k ds env).isSome = true → ds.length = n) (ds : List D) (env : Ev) (h : (glCons g k ds env).isSome = true) : ds.length = n + 1 := by
  cases ds with
  | nil => cases h
  | cons d r =>
    have h' : ((g d env).bind (k r)).isSome = true := h
    cases e : g d env with
    | none => rw [e] at h'; cases h'
    | some e1 =>
      rw [e] at h'
      simp only [List.length_cons]
      rw [hk r e1 h']
/-- a, b = e: e is a tuple -/
def sAsg (g : GF) (f : XF) : SF := fun env => (f env).bind fun r => match g r.1 r.2 with
  | some e => .ok (.nx, e)
  | none => .bad
theorem fr_sub {W H : Hp} {A A' : List (List Addr)} (h : ∀ p, ownd A' p → ownd A p) : Fr W H (ownd A) W H (ownd A') := ⟨Same.refl _, fun _ _ h _ => h, fun _ h1 h2 => absurd h2 h1, fun p q => .inl (h p q)⟩
theorem es_asg {tg : Expr} (h : EX X Wx e f) (hg : EG X tg vs g) (hs : swapsWithSole [tg] e pos.line X.env = pure false := by rfl) (hw : swappedStores [tg] e X.env = pure none := by rfl)
    (h1 : (assignEach [tg] X.env).map (·.2) = [assign tg X.env] := by rfl) : ES X Wx (.Assign [tg] e pos) (sAsg g f) := by
  refine PS.wk (ps_asg h hg hs hw h1) ?_
  rintro D σ H ⟨ρ, W, env, A, S, h⟩
  refine tS_then S h fun d W1 H1 env1 A1 v S1 F1 r1 h1 => ?_
  simp only at h1
  cases e : g d env1 with
  | none => rw [e] at h1; exact h1.elim
  | some env2 =>
    rw [e] at h1
    exact ⟨ρ, W1, env1, A1, d, env2, S1, r1, e, fun σ2 A2 S2 p2 _ => h1 W1 H1 A2 σ2 S2 (fr_sub p2)⟩
end
end DP
set_option Elab.async false
set_option linter.all false
set_option maxRecDepth 100000
/-! DP, part 6: what is walked, for, while, comprehensions. -/
namespace DP
open PySem PySem.Spec PyProof.Rows L2

/-- J yields the data xs, whatever grows around it -/
structure Wk (K : PySem.W.Frag) (w : World) (W : Hp) (xs : List D) (J : It) : Prop where
  go : ∀ i H W2, Same W W2 → Same W2 H → i < xs.length → J.go i H
  stop : ∀ i H W2, Same W W2 → Same W2 H → xs.length ≤ i → J.stop i H
  yld : ∀ i H W2 v H' x, Same W W2 → Same W2 H → xs[i]? = some x → J.yld i H v H' → ∃ W', Ex W2 H W' H' ∧ Rep K w W' x v
abbrev IF := Ev → Out (List D × Ev)
abbrev tI (X : Cx) (Wx : WX) (f : IF) : TI := fun σ H R => tG X.K X.w X.mg Wx (fun W xs J => Wk X.K X.w W xs J) f σ H R
abbrev EI (X : Cx) (Wx : WX) (tg e : Expr) (f : IF) : Prop := PI X tg e (tI X Wx f)

/-! ### for -/
def forL (g : GF) (body : SF) : List D → SF
  | [], env => .ok (.nx, env)
  | x :: xs, env => match g x env with
    | none => .bad
    | some e1 => (body e1).bind fun r => match r.1 with
      | .nx => forL g body xs r.2
      | .ct => forL g body xs r.2
      | .bk => .ok (.nx, r.2)
      | .rt d => .ok (.rt d, r.2)
def sFor (it : IF) (g : GF) (body : SF) : SF := fun env => (it env).bind fun r => forL g body r.1 r.2

section
variable {X : Cx} {Wx : WX} {tg iter c : Expr} {body : List Stmt} {it : IF} {vs : List Nat} {g : GF} {b : SF} {tf : TF} {pos : Pos}
theorem es_for (hp : PassesOwn (model X.prog X.w) X.A X.env X.xe) (hc : X.calm = true) (hi : EI X Wx tg iter it) (hg : EG X tg vs g) (hb : EB X Wx body b)
    (hs : ∀ x, foldedSetIterable iter X.env x = pure x := by intro _; rfl) : ES X Wx (.For tg iter body [] pos) (sFor it g b) := by
  refine PS.wk (ps_for hp hc hi hg hb hs) ?_
  rintro D σ H ⟨ρ, W, env, A, S, h⟩
  refine tS_then S h fun xs W1 H1 env1 A1 J S1 F1 wk h1 => ?_
  refine ⟨fun i m σ H => m = xs.length - i ∧ i ≤ xs.length ∧ ∃ W2 env2 A2, SR X.K X.w ρ W2 H env2 σ A2 ∧ Same W1 W2 ∧ onS X Wx ρ W2 H A2 (forL g b (xs.drop i) env2) D,
    ⟨xs.length, by simp, Nat.zero_le _, W1, env1, A1, S1, Same.refl _, h1⟩, ?_⟩
  rintro i m σ2 H2 ⟨rfl, hi, W2, env2, A2, S2, s2, h2⟩
  by_cases hlt : i < xs.length
  · obtain ⟨x, hx⟩ : ∃ x, xs[i]? = some x := ⟨_, List.getElem?_eq_getElem hlt⟩
    have hd : xs.drop i = x :: xs.drop (i + 1) := by
      have e1 := List.drop_eq_getElem_cons hlt
      rw [List.getElem?_eq_getElem hlt] at hx
      cases hx
      exact e1
    rw [hd] at h2
    unfold forL at h2
    refine .inr ⟨wk.go i H2 W2 s2 S2.sub hlt, fun σ' H' => i + 1 ≤ xs.length ∧ ∃ W2 env2 A2, SR X.K X.w ρ W2 H' env2 σ' A2 ∧ Same W1 W2 ∧ onS X Wx ρ W2 H' A2 (forL g b (xs.drop (i + 1)) env2) D,
      fun σ' H' ⟨n1, n2⟩ => ⟨xs.length - (i + 1), by omega, rfl, n1, n2⟩, fun v H3 y => ?_⟩
    obtain ⟨W3, e3, r3⟩ := wk.yld i H2 W2 v H3 x s2 S2.sub hx y
    have S3 := S2.ex e3
    cases eg : g x env2 with
    | none => rw [eg] at h2; exact h2.elim
    | some env3 =>
      rw [eg] at h2
      simp only at h2
      refine ⟨ρ, W3, env2, A2, x, env3, S3, r3, eg, fun σ4 A4 S4 p4 _ => ⟨ρ, W3, env3, A4, S4, ?_⟩⟩
      have F4 : Fr W2 H2 (ownd A2) W3 H3 (ownd A4) := (e3.fr _).trans (fr_sub p4)
      have h4 := onS_fr h2 F4
      cases eb : b env3 with
      | bad => rw [eb] at h4; exact h4.elim
      | exc cc d e => rw [eb] at h4; exact h4
      | ok r =>
        obtain ⟨fl, env5⟩ := r
        rw [eb, Out.bind_ok] at h4
        cases fl with
        | nx => exact fun W5 H5 A5 σ5 S5 F5 => ⟨hlt, W5, env5, A5, S5, (s2.trans e3.ext).trans F5.ext, onS_fr h4 F5⟩
        | ct => exact fun W5 H5 A5 σ5 S5 F5 => ⟨hlt, W5, env5, A5, S5, (s2.trans e3.ext).trans F5.ext, onS_fr h4 F5⟩
        | bk => exact h4
        | rt d => exact h4
  · have ei : i = xs.length := by omega
    subst ei
    refine .inl ⟨wk.stop _ H2 W2 s2 S2.sub (Nat.le_refl _), ?_⟩
    rw [List.drop_length] at h2
    exact h2 W2 H2 A2 σ2 S2 (Fr.refl _ _ _)

/-! ### while -/
def whL (c : TF) (body : SF) : Nat → SF
  | 0, _ => .bad
  | n + 1, env => (c env).bind fun r => if r.1 = true then (body r.2).bind fun q => match q.1 with
      | .nx => whL c body n q.2
      | .ct => whL c body n q.2
      | .bk => .ok (.nx, q.2)
      | .rt d => .ok (.rt d, q.2) else .ok (.nx, r.2)
theorem es_while {n : Nat} (hp : PassesOwn (model X.prog X.w) X.A X.env X.xe) (hc : ET X Wx c tf) (hb : EB X Wx body b) : ES X Wx (.While c body [] pos) (whL tf b n) := by
  refine PS.wk (ps_while hp hc hb) ?_
  rintro D σ H ⟨ρ, W, env, A, S, h⟩
  refine ⟨fun m σ H => ∃ W2 env2 A2, SR X.K X.w ρ W2 H env2 σ A2 ∧ onS X Wx ρ W2 H A2 (whL tf b m env2) D, ⟨n, W, env, A, S, h⟩, ?_⟩
  rintro m σ1 H1 ⟨W1, env1, A1, S1, h1⟩
  cases m with
  | zero => exact h1.elim
  | succ m =>
    unfold whL at h1
    refine tS_then S1 h1 fun d W2 H2 env2 A2 k S2 F2 r2 h2 => ?_
    subst r2
    cases k with
    | false => exact iteF (h2 W2 H2 A2 σ1 S2 (Fr.refl _ _ _))
    | true =>
      refine iteT ⟨fun σ' H' => ∃ W2 env2 A2, SR X.K X.w ρ W2 H' env2 σ' A2 ∧ onS X Wx ρ W2 H' A2 (whL tf b m env2) D, fun σ' H' q => ⟨m, Nat.lt_succ_self m, q⟩, ρ, W2, env2, A2, S2, ?_⟩
      simp only [if_true] at h2
      cases eb : b env2 with
      | bad => rw [eb] at h2; exact h2.elim
      | exc cc d e => rw [eb] at h2; exact h2
      | ok r =>
        obtain ⟨fl, env5⟩ := r
        rw [eb, Out.bind_ok] at h2
        cases fl with
        | nx => exact fun W5 H5 A5 σ5 S5 F5 => ⟨W5, env5, A5, S5, onS_fr h2 F5⟩
        | ct => exact fun W5 H5 A5 σ5 S5 F5 => ⟨W5, env5, A5, S5, onS_fr h2 F5⟩
        | bk => exact h2
        | rt d => exact h2
end

/-! ### comprehensions -/
/-- slots forgotten -/
def wipeE (e : Ev) : List Nat → Ev
  | [] => e
  | v :: vs => (wipeE e vs).set v .no
def wipeA (A : List (List Addr)) : List Nat → List (List Addr)
  | [] => A
  | v :: vs => (wipeA A vs).set v []
/-- .. and back, as they were -/
def backE (e0 e : Ev) : List Nat → Ev
  | [] => e
  | v :: vs => (backE e0 e vs).set v (match e0[v]? with
    | some (.fz d) => .fz d
    | _ => .no)
def cmpL (g : GF) (ts : TF) (el : XF) (vs : List Nat) : List D → Ev → Out (List D × Ev)
  | [], env => .ok ([], env)
  | x :: xs, env => match g x env with
    | none => .bad
    | some e1 => (ts e1).bind fun t => if t.1 = true then (el t.2).bind fun y => (cmpL g ts el vs xs (wipeE y.2 vs)).bind fun r => .ok (y.1 :: r.1, r.2) else cmpL g ts el vs xs (wipeE t.2 vs)
/-- the items of a comprehension -/
def lComp (it : IF) (g : GF) (ts : TF) (el : XF) (vs : List Nat) : AF := fun env => (it env).bind fun r => match cmpL g ts el vs r.1 (wipeE r.2 vs) with
  | .ok (ds, e) => if ds.length ≤ sizeLine then .ok (ds, backE r.2 e vs) else .bad
  | _ => .bad
def xComp (it : IF) (g : GF) (ts : TF) (el : XF) (vs : List Nat) : XF := fun env => (lComp it g ts el vs env).bind fun r => .ok (.list r.1, r.2)

section
variable {K : PySem.W.Frag} {w : World} {ρ : Nat → Addr} {W H : Hp} {env e0 : Ev} {σ σ' : L2.St} {A : List (List Addr)} {vs : List Nat}
theorem SR.wipe (S : SR K w ρ W H env σ A) : ∀ vs : List Nat, SR K w ρ W H (wipeE env vs) (L2.wipe σ vs) (wipeA A vs)
  | [] => S
  | v :: vs => (SR.wipe S vs).setNo v none
theorem ownd_wipe {p : Addr} : ∀ {vs : List Nat}, ownd (wipeA A vs) p → ownd A p
  | [], h => h
  | _ :: _, h => ownd_wipe (ownd_nil h)
theorem wipe_out {σ : L2.St} {j : Nat} : ∀ vs : List Nat, j ∉ vs → (L2.wipe σ vs)[j]? = σ[j]?
  | [], _ => rfl
  | v :: vs, h => by
    unfold L2.wipe
    rw [List.getElem?_set_ne (fun e => h (by rw [e]; exact List.mem_cons_self)), wipe_out vs fun z => h (List.mem_cons_of_mem _ z)]
theorem wipe_in {σ : L2.St} {j : Nat} (hl : j < σ.length) : ∀ vs : List Nat, j ∈ vs → (L2.wipe σ vs)[j]? = some none
  | v :: vs, h => by
    unfold L2.wipe
    by_cases e : v = j
    · rw [e, List.getElem?_set_self (by rw [wipe_length]; exact hl)]
    · rw [List.getElem?_set_ne e]
      exact wipe_in hl vs ((List.mem_cons.mp h).resolve_left fun z => e z.symm)
theorem wipe_agr {us : List Nat} (h : Agr us σ σ') (hv : ∀ j ∈ us, j ∈ vs) : L2.wipe σ' vs = L2.wipe σ vs := by
  refine List.ext_getElem? fun j => ?_
  by_cases hm : j ∈ vs
  · by_cases hl : j < σ.length
    · rw [wipe_in hl vs hm, wipe_in (by rw [h.1]; exact hl) vs hm]
    · rw [List.getElem?_eq_none (by rw [wipe_length, h.1]; omega), List.getElem?_eq_none (by rw [wipe_length]; omega)]
  · rw [wipe_out vs hm, wipe_out vs hm]
    exact h.2 j fun z => hm (hv j z)
theorem wipe_wipe (vs : List Nat) : L2.wipe (L2.wipe σ vs) vs = L2.wipe σ vs := wipe_agr (us := vs) ⟨wipe_length _ _, fun j hj => wipe_out vs hj⟩ fun _ h => h
def backS (σ τ : L2.St) : List Nat → L2.St
  | [] => τ
  | v :: vs => (backS σ τ vs).set v (σ[v]?.getD none)
theorem backS_len {τ : L2.St} : ∀ vs : List Nat, (backS σ τ vs).length = τ.length
  | [] => rfl
  | v :: vs => by unfold backS; rw [List.length_set, backS_len vs]
theorem backS_out {τ : L2.St} {j : Nat} : ∀ vs : List Nat, j ∉ vs → (backS σ τ vs)[j]? = τ[j]?
  | [], _ => rfl
  | v :: vs, h => by
    unfold backS
    rw [List.getElem?_set_ne (fun e => h (by rw [e]; exact List.mem_cons_self)), backS_out vs fun z => h (List.mem_cons_of_mem _ z)]
theorem backS_in {τ : L2.St} {j : Nat} (hl : j < τ.length) (hs : j < σ.length) : ∀ vs : List Nat, j ∈ vs → (backS σ τ vs)[j]? = σ[j]?
  | v :: vs, h => by
    unfold backS
    by_cases e : v = j
    · subst e
      rw [List.getElem?_set_self (by rw [backS_len]; exact hl), List.getElem?_eq_getElem hs]
      rfl
    · rw [List.getElem?_set_ne e]
      exact backS_in hl hs vs ((List.mem_cons.mp h).resolve_left fun z => e z.symm)
theorem backS_eq {τ : L2.St} (hl : τ.length = σ.length) (h : ∀ j, j ∉ vs → τ[j]? = σ[j]?) : backS σ τ vs = σ := by
  refine List.ext_getElem? fun j => ?_
  by_cases hm : j ∈ vs
  · by_cases hj : j < σ.length
    · exact backS_in (by omega) hj vs hm
    · rw [List.getElem?_eq_none (by rw [backS_len]; omega), List.getElem?_eq_none (by omega)]
  · rw [backS_out vs hm]
    exact h j hm
/-- behind a comprehension: the def's own slots again -/
theorem SR.back {W0 H0 : Hp} {A0 : List (List Addr)} (S : SR K w ρ W H env (L2.wipe σ vs) A) (S0 : SR K w ρ W0 H0 e0 σ A0) (e : Same W0 W) : SR K w ρ W H (backE e0 env vs) σ (wipeA A vs) := by
  have go : ∀ us : List Nat, SR K w ρ W H (backE e0 env us) (backS σ (L2.wipe σ vs) us) (wipeA A us) := by
    intro us
    induction us with
    | nil => exact S
    | cons v us ih =>
      unfold backE backS wipeA
      cases q : e0[v]? with
      | none => exact ih.setNo v _
      | some sl =>
        cases sl with
        | no => exact ih.setNo v _
        | ow t c => exact ih.setNo v _
        | sc ns => exact ih.setNo v _
        | nd kvs => exact ih.setNo v _
        | xe d => exact ih.setNo v _
        | fz d =>
          obtain ⟨x, l, h1, h2, h3⟩ := S0.at q
          obtain ⟨_, y, rfl, r⟩ := h3
          rw [h1]
          exact ih.setFz v (Rep.mono e d y r)
  have q := go vs
  rwa [backS_eq (wipe_length σ vs) fun j hj => wipe_out vs hj] at q
end
end DP
set_option Elab.async false
set_option linter.all false
set_option maxRecDepth 100000
/-! DP, part 7: new containers; displays; list comprehensions. -/
namespace DP
open PySem PySem.Spec PyProof.Rows L2

section
variable (K : PySem.W.Frag) (w : World) (mg : Str → Option Value) (Wx : WX)
/-- what is wanted of an outcome that is a new container, nobody's yet -/
def onN (ρ : Nat → Addr) (σ : L2.St) (W H : Hp) (A : List (List Addr)) (o : Out (D × Ev)) (Q : VK) : Prop :=
  match o with
  | .ok (c, env') => ∀ W' H' A' p, SR K w ρ W' H' env' σ A' → Fr W H (ownd A) W' H' (ownd A') → W' p = none → Own K w W' H' c p → ¬ ownd A' p → (ownd A p ∨ H p = none) → Q (.ref p) H'
  | .exc c d env' => ∀ C W' H' A' dx v, mg c = some (.ref C) → SR K w ρ W' H' env' σ A' → Fr W H (ownd A) W' H' (ownd A') → H' dx = some (.xd [("at", v)]) → Rep K w W' d v → Wx (.ref C) (some dx) σ H'
  | .bad => False
end
abbrev tN (X : Cx) (Wx : WX) (f : XF) : TE := fun σ H Q => ∃ ρ W env A, SR X.K X.w ρ W H env σ A ∧ onN X.K X.w X.mg Wx ρ σ W H A (f env) Q
/-- e makes a new container -/
abbrev EN (X : Cx) (Wx : WX) (e : Expr) (f : XF) : Prop := PE X e (tN X Wx f)
/-- a new container, frozen at once -/
theorem Own.freeze {K : PySem.W.Frag} {w : World} {W H : Hp} {c : D} {p : Addr} (h : Own K w W H c p) (e : Same W H) (n : W p = none) :
    ∃ W', Same W W' ∧ Same W' H ∧ Rep K w W' c (.ref p) ∧ (∀ b, b ≠ p → W' b = W b) ∧ W' p = H p := by
  obtain ⟨o, ho, r, sb⟩ := h.lay e n
  exact ⟨upd W p o, fun b u q => by rw [upd_ne (ne_of_none q n)]; exact q, sb, r, fun b hb => upd_ne hb, by rw [upd_same, ho]⟩
theorem EN.ex {X : Cx} {Wx : WX} {e : Expr} {f : XF} (h : EN X Wx e f) : EX X Wx e f := by
  refine PE.wk h ?_
  rintro σ H Q ⟨ρ, W, env, A, S, h⟩
  refine ⟨ρ, W, env, A, S, ?_⟩
  cases ef : f env with
  | bad => rw [ef] at h; exact h.elim
  | exc c d e => rw [ef] at h; exact h
  | ok r =>
    obtain ⟨c, env1⟩ := r
    rw [ef] at h
    intro W1 H1 A1 p S1 F1 n1 o1 n2 n3
    obtain ⟨W2, s1, s2, r2, k2, kp⟩ := o1.freeze S1.sub n1
    refine h W2 H1 A1 _ (S1.keep s1 s2 fun b hb => ⟨rfl, ?_⟩) ⟨F1.ext.trans s1, F1.keep, fun b h1 h2 => ?_, F1.own⟩ r2
    · rw [k2 b fun e => n2 (e ▸ hb)]
      exact (S1.own hb).1
    · by_cases hb : b = p
      · subst hb; exact n3
      · rw [k2 b hb] at h1
        exact F1.new b h1 h2
section
variable (K : PySem.W.Frag) (w : World)
/-- .. as an operation's result -/
def onW (W H : Hp) (o : Option D) (Q : VK) : Prop := match o with
  | some c => ∀ W' H' p, Ex W H W' H' → W' p = none → Own K w W' H' c p → H p = none → Q (.ref p) H'
  | none => False
def tW1 (op : D → Option D) : V → Hp → VK → Prop := fun v H Q => ∃ W x, Same W H ∧ Rep K w W x v ∧ onW K w W H (op x) Q
def tW2 (op : D → D → Option D) : V → V → Hp → VK → Prop := fun v u H Q => ∃ W x y, Same W H ∧ Rep K w W x v ∧ Rep K w W y u ∧ onW K w W H (op x y) Q
def tWn (op : List D → Option D) : List V → Hp → VK → Prop := fun vs H Q => ∃ W xs, Same W H ∧ RepL K w W xs vs ∧ onW K w W H (op xs) Q
end
section
variable {K : PySem.W.Frag} {w : World} {W H : Hp} {Q : VK}
theorem onW.of_onV {o : Option D} (h : onV K w W H o Q) : onW K w W H o Q := by
  cases o with
  | none => exact h
  | some c =>
    intro W1 H1 p e n o1 n3
    obtain ⟨W2, s1, s2, r2, k2, kp⟩ := o1.freeze e.sub n
    refine h W2 H1 _ ⟨e.ext.trans s1, e.keep, s2, fun b h1 h2 => ?_⟩ r2
    by_cases hb : b = p
    · subst hb; exact n3
    · rw [k2 b hb] at h1
      exact e.new b h1 h2
theorem tW1.of {op : D → Option D} {v : V} (h : tV1 K w op v H Q) : tW1 K w op v H Q := by
  obtain ⟨W, x, s, r, h⟩ := h
  exact ⟨W, x, s, r, onW.of_onV h⟩
theorem tW2.of {op : D → D → Option D} {v u : V} (h : tV2 K w op v u H Q) : tW2 K w op v u H Q := by
  obtain ⟨W, x, y, s, r, r', h⟩ := h
  exact ⟨W, x, y, s, r, r', onW.of_onV h⟩
theorem tWn.of {op : List D → Option D} {vs : List V} (h : tVn K w op vs H Q) : tWn K w op vs H Q := by
  obtain ⟨W, x, s, r, h⟩ := h
  exact ⟨W, x, s, r, onW.of_onV h⟩
/-- a new list on top of what stands -/
theorem onW.lst {zs : List D} {vs : List V} {p : Addr} (h : onW K w W H (some (.list zs)) Q) (s : Same W H) (r : RepL K w W zs vs) (n : H p = none) : Q (.ref p) (upd H p (.lst vs)) :=
  h W _ p (Ex.junk s n) (s.free n) ⟨vs, upd_same, r⟩ n
end
section
variable {X : Cx} {Wx : WX} {ρ : Nat → Addr} {σ : L2.St} {W H : Hp} {A : List (List Addr)} {env : Ev} {Q : VK}
theorem onN_fr {W1 H1 : Hp} {A1 : List (List Addr)} {o : Out (D × Ev)} (h : onN X.K X.w X.mg Wx ρ σ W H A o Q) (F : Fr W H (ownd A) W1 H1 (ownd A1)) : onN X.K X.w X.mg Wx ρ σ W1 H1 A1 o Q := by
  cases o with
  | bad => exact h
  | exc c d e => exact fun C W' H' A' dx v g S' F' x r' => h C W' H' A' dx v g S' (F.trans F') x r'
  | ok r =>
    intro W' H' A' p S' F' n o k z
    refine h W' H' A' p S' (F.trans F') n o k ?_
    rcases z with z | z
    · exact F.own p z
    · cases q : H p with
      | none => exact .inr rfl
      | some u =>
        by_cases hp : ownd A p
        · exact .inl hp
        · have := F.keep p u q hp
          rw [z] at this; cases this
/-- a step ahead of a new container -/
theorem tN_then {α β : Type} {R : Hp → α → β → Prop} {f : Ev → Out (α × Ev)} {k : α × Ev → Out (D × Ev)} {Q' : β → Hp → Prop}
    (S : SR X.K X.w ρ W H env σ A) (h : onN X.K X.w X.mg Wx ρ σ W H A ((f env).bind k) Q)
    (n : ∀ d W1 H1 env1 A1 v, SR X.K X.w ρ W1 H1 env1 σ A1 → Fr W H (ownd A) W1 H1 (ownd A1) → R W1 d v → onN X.K X.w X.mg Wx ρ σ W1 H1 A1 (k (d, env1)) Q → Q' v H1) : tG X.K X.w X.mg Wx R f σ H Q' := by
  refine ⟨ρ, W, env, A, S, ?_⟩
  cases e : f env with
  | ok r =>
    rw [e, Out.bind_ok] at h
    obtain ⟨d, env1⟩ := r
    exact fun W1 H1 A1 v S1 F1 r1 => n d W1 H1 env1 A1 v S1 F1 r1 (onN_fr h F1)
  | exc c d e' => rw [e, Out.bind_exc] at h; exact h
  | bad => rw [e, Out.bind_bad] at h; exact h.elim
/-- the operation that makes it -/
theorem onW_of {o : Option D} (S : SR X.K X.w ρ W H env σ A) (h : onN X.K X.w X.mg Wx ρ σ W H A (liftO o env) Q) : onW X.K X.w W H o Q := by
  cases o with
  | none => exact h
  | some c =>
    intro W' H' p e n o1 z
    refine h W' H' A p (S.ex e) (e.fr _) n o1 (fun hp => ?_) (.inr z)
    obtain ⟨_, u, hu⟩ := S.own hp
    rw [z] at hu; cases hu
end

/-! ### displays -/
def xTup (f : AF) : XF := xn (fun ds => if ds.length ≤ sizeLine then some (.tuple ds) else none) f
def xLst (f : AF) : XF := xn (fun ds => if ds.length ≤ sizeLine then some (.list ds) else none) f
section
variable {X : Cx} {Wx : WX} {es : List Expr} {f : AF} {pos : Pos}
theorem ex_tup {k : Nat} (h : EA X Wx es f) : EX X Wx (.Tuple es k pos) (xTup f) := by
  refine PE.wk (pe_tup h) ?_
  rintro σ H Q ⟨ρ, W, env, A, S, h⟩
  refine tG_then S h fun ds W1 H1 env1 A1 vs S1 F1 r1 h1 => ?_
  have h2 := onV_of S1 h1
  dsimp only at h2
  split at h2
  · rename_i c
    exact ⟨by rw [r1.len]; exact c, fun p n => h2.tup S1.sub r1 n⟩
  · exact h2.elim
theorem en_lst (h : EA X Wx es f) : EN X Wx (.List es pos) (xLst f) := by
  refine PE.wk (pe_lst h) ?_
  rintro σ H Q ⟨ρ, W, env, A, S, h⟩
  refine tN_then S h fun ds W1 H1 env1 A1 vs S1 F1 r1 h1 => ?_
  have h2 := onW_of S1 h1
  dsimp only at h2
  split at h2
  · rename_i c
    exact ⟨by rw [r1.len]; exact c, fun p n => h2.lst S1.sub r1 n⟩
  · exact h2.elim
theorem ex_lst (h : EA X Wx es f) : EX X Wx (.List es pos) (xLst f) := (en_lst h).ex
/-- name = a new container -/
def sOwn (i : Nat) (f : XF) : SF := fun env => (f env).bind fun r => .ok (.nx, r.2.set i (.ow none r.1))
theorem es_own {i : Nat} {x : Str} {e : Expr} {p2 : Pos} {f : XF} (hN : X.N.Nodup) (hi : X.N[i]? = some x) (hx : Loc X.env.scope x) (h : EN X Wx e f) (hs : swapsWith e (some (.Name x p2)) pos.line X.env = pure false := by rfl)
    (hf : X.fn x = true ∨ X.env.scope.names.lookup x = some .local := by first | exact .inl rfl | exact .inr rfl | assumption) : ES X Wx (.Assign [.Name x p2] e pos) (sOwn i f) := by
  refine PS.wk (ps_set hN hi hx h hs hf) ?_
  rintro D σ H ⟨ρ, W, env, A, S, h⟩
  refine ⟨ρ, W, env, A, S, ?_⟩
  unfold sOwn at h
  cases e : f env with
  | bad => rw [e] at h; exact h.elim
  | exc c d e' =>
    rw [e] at h
    exact fun C W' H' A' dx v g S' F' x r' => h C W' H' A' σ dx v g S' F' x r'
  | ok r =>
    rw [e] at h
    obtain ⟨c, env1⟩ := r
    intro W1 H1 A1 p S1 F1 n1 o1 n2 n3
    refine h W1 H1 (A1.set i [p]) _ (S1.put i ⟨p, rfl, rfl, n1, o1, fun _ z => nomatch z⟩ fun j l b hj hl hb => ?_) ⟨F1.ext, F1.keep, F1.new, fun b hb => ?_⟩
    · intro hm
      have e : b = p := by simpa using hm
      subst e
      exact n2 ⟨j, l, hl, hb⟩
    · rcases ownd_put hb with z | z
      · have e : b = p := by simpa using z
        subst e
        exact n3
      · exact F1.own b z
end

/-! ### list comprehensions -/
def tTrue : TF := fun env => .ok (true, env)
abbrev EQ (X : Cx) (Wx : WX) (ifs : List Expr) (f : TF) : Prop := PTs X ifs (tT X Wx f)
theorem eq_nil {X : Cx} {Wx : WX} : EQ X Wx [] tTrue := by
  refine ⟨fun pins s σ H Q I q => pts_nil.run pins s σ H Q I ?_⟩
  obtain ⟨ρ, W, env, A, S, h⟩ := q
  exact h W H A true S (Fr.refl _ _ _) rfl
theorem eq_one {X : Cx} {Wx : WX} {c : Expr} {f : TF} (h : ET X Wx c f) : EQ X Wx [c] f := pts_one h

abbrev Wx0 : WX := fun _ _ _ _ => False
/-- a step of which nothing but a value is known to come -/
theorem step0 {α β γ : Type} {K : PySem.W.Frag} {w : World} {mg : Str → Option Value} {Wx : WX} {R : Hp → α → β → Prop} {ρ : Nat → Addr} {σ : L2.St} {W H : Hp} {A : List (List Addr)} {env : Ev} {f : Ev → Out (α × Ev)} {k : α × Ev → Out γ} {r : γ} {Q' : β → Hp → Prop}
    (S : SR K w ρ W H env σ A) (h : (f env).bind k = .ok r)
    (n : ∀ d W1 H1 env1 A1 v, SR K w ρ W1 H1 env1 σ A1 → Fr W H (ownd A) W1 H1 (ownd A1) → R W1 d v → k (d, env1) = .ok r → Q' v H1) : tG K w mg Wx R f σ H Q' := by
  refine ⟨ρ, W, env, A, S, ?_⟩
  cases e : f env with
  | ok q =>
    rw [e, Out.bind_ok] at h
    obtain ⟨d, env1⟩ := q
    exact fun W1 H1 A1 v S1 F1 r1 => n d W1 H1 env1 A1 v S1 F1 r1 h
  | exc c d e' => rw [e] at h; cases h
  | bad => rw [e] at h; cases h
theorem RepL.snoc {K : PySem.W.Frag} {w : World} {W : Hp} {ds : List D} {vs : List V} {d : D} {v : V} (h : RepL K w W ds vs) (r : Rep K w W d v) : RepL K w W (ds ++ [d]) (vs ++ [v]) := h.append (RepL.cons r RepL.nil)
section
variable {X : Cx} {Wx : WX} {it : IF} {g : GF} {ts : TF} {el : XF} {us vs : List Nat} {σ : L2.St} {H : Hp} {Q : VK}
/-- ONE TURN'S END AND ALL: the reading of [elt for target in iter if ..] -/
theorem comp_read (hus : ∀ j ∈ us, j ∈ vs) (h : tN X Wx (xComp it g ts el vs) σ H Q) : tLc (tI X Wx it) (tGt X us g) (tT X Wx0 ts) (tX X Wx0 el) vs σ H Q := by
  obtain ⟨ρ, W, env, A, S, h⟩ := h
  unfold xComp lComp at h
  have hb : ∀ {α β γ : Type} (o : Out α) (f : α → Out β) (k : β → Out γ), (o.bind f).bind k = o.bind fun a => (f a).bind k := by
    intro α β γ o f k; cases o <;> rfl
  rw [hb] at h
  refine tN_then S h fun xs W1 H1 env1 A1 J S1 F1 wk h1 => ?_
  intro L nL
  cases ec : cmpL g ts el vs xs (wipeE env1 vs) with
  | bad => rw [ec] at h1; exact h1.elim
  | exc c d e => rw [ec] at h1; exact h1.elim
  | ok r =>
    obtain ⟨ds, envE⟩ := r
    simp only [ec] at h1
    by_cases hz : ds.length ≤ sizeLine
    · rw [if_pos hz] at h1
      have nW : W1 L = none := S1.sub.free nL
      have oL : ¬ ownd A1 L := fun z => by
        obtain ⟨_, u, hu⟩ := S1.own z
        rw [nL] at hu; cases hu
      have S2 : SR X.K X.w ρ W1 (upd H1 L (.lst [])) env1 σ A1 := S1.ex (Ex.junk S1.sub nL)
      refine ⟨fun i m H => m = xs.length - i ∧ i ≤ xs.length ∧ ∃ W2 env2 A2 done rest acc, SR X.K X.w ρ W2 H env2 (L2.wipe σ vs) A2 ∧ Fr W1 H1 (ownd A1) W2 H (ownd A2) ∧ W2 L = none ∧ ¬ ownd A2 L ∧ H L = some (.lst acc) ∧ RepL X.K X.w W2 done acc ∧
          done ++ rest = ds ∧ cmpL g ts el vs (xs.drop i) env2 = .ok (rest, envE),
        ⟨xs.length, by simp, Nat.zero_le _, W1, _, _, [], ds, [], S2.wipe vs, ((Ex.junk S1.sub nL).fr _).trans (fr_sub fun p h => ownd_wipe h), nW, fun z => oL (ownd_wipe z), upd_same, RepL.nil, rfl, ec⟩, ?_⟩
      rintro i m H2 ⟨rfl, hi, W2, env2, A2, done, rest, acc, S3, F3, n3, o3, e3, r3, eq3, c3⟩
      by_cases hlt : i < xs.length
      · obtain ⟨x, hx⟩ : ∃ x, xs[i]? = some x := ⟨_, List.getElem?_eq_getElem hlt⟩
        have hd : xs.drop i = x :: xs.drop (i + 1) := by
          have e1 := List.drop_eq_getElem_cons hlt
          rw [List.getElem?_eq_getElem hlt] at hx
          cases hx
          exact e1
        rw [hd] at c3
        unfold cmpL at c3
        refine .inr ⟨wk.go i H2 W2 F3.ext S3.sub hlt, fun H => i + 1 ≤ xs.length ∧ ∃ W2 env2 A2 done rest acc, SR X.K X.w ρ W2 H env2 (L2.wipe σ vs) A2 ∧ Fr W1 H1 (ownd A1) W2 H (ownd A2) ∧ W2 L = none ∧ ¬ ownd A2 L ∧ H L = some (.lst acc) ∧ RepL X.K X.w W2 done acc ∧
            done ++ rest = ds ∧ cmpL g ts el vs (xs.drop (i + 1)) env2 = .ok (rest, envE), fun H' ⟨q1, q2⟩ => ⟨xs.length - (i + 1), by omega, rfl, q1, q2⟩, fun v H4 y => ?_⟩
        obtain ⟨W4, e4, r4⟩ := wk.yld i H2 W2 v H4 x F3.ext S3.sub hx y
        have S4 := S3.ex e4
        have L4 : H4 L = some (.lst acc) := e4.keep _ _ e3
        have n4 : W4 L = none := by
          cases z : W4 L with
          | none => rfl
          | some u =>
            have q := e4.new L (by rw [z]; exact fun z => nomatch z) n3
            rw [e3] at q; cases q
        cases eg : g x env2 with
        | none => rw [eg] at c3; cases c3
        | some env5 =>
          rw [eg] at c3
          simp only at c3
          refine ⟨ρ, W4, env2, A2, x, env5, S4, r4, eg, fun σ5 A5 S5 p5 a5 => ⟨?_, ?_⟩⟩
          · rw [wipe_agr a5 hus, wipe_wipe]
          · have ws : L2.wipe σ5 vs = L2.wipe σ vs := by rw [wipe_agr a5 hus, wipe_wipe]
            have F5 : Fr W1 H1 (ownd A1) W4 H4 (ownd A5) := F3.trans ((e4.fr _).trans (fr_sub p5))
            have l5 : ¬ ownd A5 L := fun z => o3 (p5 L z)
            -- what a step that is not L's owner leaves of L
            have stay : ∀ {W' H' : Hp} {A' : List (List Addr)}, Fr W4 H4 (ownd A5) W' H' (ownd A') → H' L = some (.lst acc) ∧ W' L = none ∧ ¬ ownd A' L := fun {W' H' A'} F => by
              refine ⟨F.keep L _ L4 l5, ?_, fun z => ?_⟩
              · cases z : W' L with
                | none => rfl
                | some u =>
                  rcases F.new L (by rw [z]; exact fun z => nomatch z) n4 with q | q
                  · exact absurd q l5
                  · rw [L4] at q; cases q
              · rcases F.own L z with q | q
                · exact l5 q
                · rw [L4] at q; cases q
            refine step0 S5 c3 fun b W6 H6 env6 A6 k S6 F6 r6 c6 => ?_
            subst r6
            cases k with
            | false =>
              simp only [Bool.false_eq_true, if_false] at c6
              obtain ⟨q1, q2, q3⟩ := stay F6
              have S7 := S6.wipe vs
              rw [ws] at S7
              exact iteF ⟨hlt, W6, _, _, done, rest, acc, S7, F5.trans (F6.trans (fr_sub fun p h => ownd_wipe h)), q2, fun z => q3 (ownd_wipe z), q1, RepL.mono (e4.ext.trans F6.ext) _ _ r3, eq3, c6⟩
            | true =>
              simp only [if_true] at c6
              refine iteT (step0 S6 c6 fun d W7 H7 env7 A7 v7 S7 F7 r7 c7 => ?_)
              have F67 := F6.trans F7
              obtain ⟨q1, q2, q3⟩ := stay F67
              cases ed : cmpL g ts el vs (xs.drop (i + 1)) (wipeE env7 vs) with
              | bad => rw [ed] at c7; cases c7
              | exc c d' e => rw [ed] at c7; cases c7
              | ok rr =>
                obtain ⟨rest', envE'⟩ := rr
                rw [ed, Out.bind_ok] at c7
                have c8 : d :: rest' = rest ∧ envE' = envE := by
                  injection c7 with c7
                  injection c7 with c7 c9
                  exact ⟨c7, c9⟩
                obtain ⟨c8, c9⟩ := c8
                subst c9
                have hlen : acc.length < sizeLine := by
                  rw [r3.len]
                  have e1 := congrArg List.length eq3
                  rw [List.length_append, ← c8, List.length_cons] at e1
                  omega
                have S8 : SR X.K X.w ρ W7 (upd H7 L (.lst (acc ++ [v7]))) env7 σ5 A7 := by
                  refine S7.keep (Same.refl _) (fun b u q => ?_) fun b hb => ⟨upd_ne fun e => q3 (e ▸ hb), (S7.own hb).1⟩
                  rw [upd_ne (fun e => by rw [e, q2] at q; cases q)]
                  exact S7.sub b u q
                have S9 := S8.wipe vs
                rw [ws] at S9
                refine ⟨acc, q1, hlen, hlt, W7, _, _, done ++ [d], rest', acc ++ [v7], S9, ?_, q2, fun z => q3 (ownd_wipe z), upd_same, RepL.snoc (RepL.mono (e4.ext.trans F67.ext) _ _ r3) r7, by rw [List.append_assoc]; exact (by rw [← eq3, ← c8]; rfl), ed⟩
                have F8 := F5.trans F67
                refine ⟨F8.ext, fun b u hb hp => ?_, F8.new, fun b hb => F8.own b (ownd_wipe hb)⟩
                have e : b ≠ L := fun e => by rw [e, nL] at hb; cases hb
                rw [upd_ne e]
                exact F8.keep b u hb hp
      · have ei : i = xs.length := by omega
        subst ei
        refine .inl ⟨wk.stop _ H2 W2 F3.ext S3.sub (Nat.le_refl _), ?_⟩
        rw [List.drop_length] at c3
        unfold cmpL at c3
        have c4 : rest = [] ∧ env2 = envE := by
          injection c3 with c3
          injection c3 with c3 c5
          exact ⟨c3.symm, c5⟩
        obtain ⟨rfl, rfl⟩ := c4
        rw [List.append_nil] at eq3
        subst eq3
        exact h1 W2 H2 _ L (SR.back S3 S1 F3.ext) (F3.trans (fr_sub fun p h => ownd_wipe h)) n3 ⟨acc, e3, r3⟩ (fun z => o3 (ownd_wipe z)) (.inr nL)
    · rw [if_neg hz] at h1
      exact h1.elim
theorem tX_tN {f : XF} (h : tX X Wx f σ H Q) : tN X Wx f σ H Q := by
  obtain ⟨ρ, W, env, A, S, h⟩ := h
  refine ⟨ρ, W, env, A, S, ?_⟩
  cases ef : f env with
  | bad => rw [ef] at h; exact h.elim
  | exc c d e => rw [ef] at h; exact h
  | ok r =>
    obtain ⟨c, env1⟩ := r
    rw [ef] at h
    intro W1 H1 A1 p S1 F1 n1 o1 n2 n3
    obtain ⟨W2, s1, s2, r2, k2, kp⟩ := o1.freeze S1.sub n1
    refine h W2 H1 A1 _ (S1.keep s1 s2 fun b hb => ⟨rfl, ?_⟩) ⟨F1.ext.trans s1, F1.keep, fun b h1 h2 => ?_, F1.own⟩ r2
    · rw [k2 b fun e => n2 (e ▸ hb)]
      exact (S1.own hb).1
    · by_cases hb : b = p
      · subst hb; exact n3
      · rw [k2 b hb] at h1
        exact F1.new b h1 h2
theorem set_read {i : Nat} {f : XF} {D : Ends} (h : tS X Wx (sSet i f) D σ H) : tX X Wx f σ H fun x H1 => gName i x σ H1 D.nx := by
  obtain ⟨ρ, W, env, A, S, h⟩ := h
  exact tS_then S h fun d W1 H1 env1 A1 v S1 F1 r1 h1 => h1 W1 H1 _ _ (S1.setFz i r1) (fr_nil i)
theorem own_read {i : Nat} {f : XF} {D : Ends} (h : tS X Wx (sOwn i f) D σ H) : tN X Wx f σ H fun x H1 => gName i x σ H1 D.nx := by
  obtain ⟨ρ, W, env, A, S, h⟩ := h
  refine ⟨ρ, W, env, A, S, ?_⟩
  unfold sOwn at h
  cases e : f env with
  | bad => rw [e] at h; exact h.elim
  | exc c d e' =>
    rw [e] at h
    exact fun C W' H' A' dx v g S' F' x r' => h C W' H' A' σ dx v g S' F' x r'
  | ok r =>
    rw [e] at h
    obtain ⟨c, env1⟩ := r
    intro W1 H1 A1 p S1 F1 n1 o1 n2 n3
    refine h W1 H1 (A1.set i [p]) _ (S1.put i ⟨p, rfl, rfl, n1, o1, fun _ z => nomatch z⟩ fun j l b hj hl hb => ?_) ⟨F1.ext, F1.keep, F1.new, fun b hb => ?_⟩
    · intro hm
      have e : b = p := by simpa using hm
      subst e
      exact n2 ⟨j, l, hl, hb⟩
    · rcases ownd_put hb with z | z
      · have e : b = p := by simpa using z
        subst e
        exact n3
      · exact F1.own b z
end
section
variable {X : Cx} {Wx : WX} {it it1 : IF} {g g1 : GF} {ts ts1 : TF} {el : XF} {us us1 vs1 : List Nat} {elt tg iter tg1 iter1 : Expr} {ifs ifs1 : List Expr} {scope : Scope} {own : List (Str × Nat)} {pos : Pos}
theorem en_comp (hc : X.calm = true) (hN : X.N.Nodup) (hi : EI X Wx tg iter it) (ok : BlkOk X.N X.env.scope scope own) (hus : us ⊆ own.map (·.2))
    (hg : ∀ (s : Shared) (H : Hp) (C : Addr) (cl : List (Str × Addr)) (fp : List Addr), EG (X.blk s H scope (compEnvC scope cl C X.env) fp) tg us g) (ht : ∀ (s : Shared) (H : Hp) (C : Addr) (cl : List (Str × Addr)) (fp : List Addr), EQ (X.blk s H scope (compEnvC scope cl C X.env) fp) Wx0 ifs ts)
    (he : ∀ (s : Shared) (H : Hp) (C : Addr) (cl : List (Str × Addr)) (fp : List Addr), EX (X.blk s H scope (compEnvC scope cl C X.env) fp) Wx0 elt el) (hs : ∀ x, foldedSetIterable iter X.env x = pure x := by intro _; rfl) :
    EN X Wx (.ListComp elt [⟨tg, iter, ifs, 0⟩] scope pos) (xComp it g ts el (own.map (·.2))) :=
  PE.wk (pe_lc hc hN hi ok hg ht he hs) fun σ H Q h => comp_read (fun j hj => hus hj) h
theorem es_setComp {i : Nat} {y : Str} {py spos : Pos} (hc : X.calm = true) (hN : X.N.Nodup) (hy : X.N[i]? = some y) (hyl : X.env.scope.names.lookup y = some .local)
    (hsw : swapsWith (.ListComp elt [⟨tg, iter, ifs, 0⟩] scope pos) (some (.Name y py)) spos.line X.env = pure true) (hi : EI X Wx tg iter it) (ok : BlkOk X.N X.env.scope scope own) (hus : us ⊆ own.map (·.2))
    (hg : ∀ (s : Shared) (H : Hp) (C : Addr) (cl : List (Str × Addr)) (fp : List Addr), EG (X.blk s H scope (compEnvC scope cl C X.env) fp) tg us g) (ht : ∀ (s : Shared) (H : Hp) (C : Addr) (cl : List (Str × Addr)) (fp : List Addr), EQ (X.blk s H scope (compEnvC scope cl C X.env) fp) Wx0 ifs ts)
    (he : ∀ (s : Shared) (H : Hp) (C : Addr) (cl : List (Str × Addr)) (fp : List Addr), EX (X.blk s H scope (compEnvC scope cl C X.env) fp) Wx0 elt el) (hs : ∀ x, foldedSetIterable iter X.env x = pure x := by intro _; rfl) :
    ES X Wx (.Assign [.Name y py] (.ListComp elt [⟨tg, iter, ifs, 0⟩] scope pos) spos) (sSet i (xComp it g ts el (own.map (·.2)))) :=
  PS.wk (ps_setLc hc hN hy hyl hsw hi ok hg ht he hs) fun D σ H h => comp_read (fun j hj => hus hj) (tX_tN (set_read h))
theorem es_ownComp {i : Nat} {y : Str} {py spos : Pos} (hc : X.calm = true) (hN : X.N.Nodup) (hy : X.N[i]? = some y) (hyl : X.env.scope.names.lookup y = some .local)
    (hsw : swapsWith (.ListComp elt [⟨tg, iter, ifs, 0⟩] scope pos) (some (.Name y py)) spos.line X.env = pure true) (hi : EI X Wx tg iter it) (ok : BlkOk X.N X.env.scope scope own) (hus : us ⊆ own.map (·.2))
    (hg : ∀ (s : Shared) (H : Hp) (C : Addr) (cl : List (Str × Addr)) (fp : List Addr), EG (X.blk s H scope (compEnvC scope cl C X.env) fp) tg us g) (ht : ∀ (s : Shared) (H : Hp) (C : Addr) (cl : List (Str × Addr)) (fp : List Addr), EQ (X.blk s H scope (compEnvC scope cl C X.env) fp) Wx0 ifs ts)
    (he : ∀ (s : Shared) (H : Hp) (C : Addr) (cl : List (Str × Addr)) (fp : List Addr), EX (X.blk s H scope (compEnvC scope cl C X.env) fp) Wx0 elt el) (hs : ∀ x, foldedSetIterable iter X.env x = pure x := by intro _; rfl) :
    ES X Wx (.Assign [.Name y py] (.ListComp elt [⟨tg, iter, ifs, 0⟩] scope pos) spos) (sOwn i (xComp it g ts el (own.map (·.2)))) :=
  PS.wk (ps_setLc hc hN hy hyl hsw hi ok hg ht he hs) fun D σ H h => comp_read (fun j hj => hus hj) (own_read h)

/-! ### two clauses -/
def cmp2L (g : GF) (ts : TF) (it1 : IF) (g1 : GF) (ts1 : TF) (el : XF) (vs vs1 : List Nat) : List D → Ev → Out (List D × Ev)
  | [], env => .ok ([], env)
  | x :: xs, env => match g x env with
    | none => .bad
    | some e1 => (ts e1).bind fun t => if t.1 = true then (it1 t.2).bind fun i => (cmpL g1 ts1 el vs1 i.1 (wipeE i.2 vs1)).bind fun q => (cmp2L g ts it1 g1 ts1 el vs vs1 xs (wipeE q.2 vs)).bind fun r => .ok (q.1 ++ r.1, r.2)
      else cmp2L g ts it1 g1 ts1 el vs vs1 xs (wipeE t.2 vs)
def lComp2 (it : IF) (g : GF) (ts : TF) (it1 : IF) (g1 : GF) (ts1 : TF) (el : XF) (vs vs1 : List Nat) : AF := fun env => (it env).bind fun r => match cmp2L g ts it1 g1 ts1 el vs vs1 r.1 (wipeE r.2 vs) with
  | .ok (ds, e) => if ds.length ≤ sizeLine then .ok (ds, backE r.2 e vs) else .bad
  | _ => .bad
def xComp2 (it : IF) (g : GF) (ts : TF) (it1 : IF) (g1 : GF) (ts1 : TF) (el : XF) (vs vs1 : List Nat) : XF := fun env => (lComp2 it g ts it1 g1 ts1 el vs vs1 env).bind fun r => .ok (.list r.1, r.2)
theorem comp2_read {vs : List Nat} {σ : L2.St} {H : Hp} {Q : VK} (hus : ∀ j ∈ us, j ∈ vs) (hus1 : ∀ j ∈ us1, j ∈ vs1) (hv : ∀ j ∈ vs1, j ∈ vs) (h : tN X Wx (xComp2 it g ts it1 g1 ts1 el vs vs1) σ H Q) :
    tLc2 (tI X Wx it) (tGt X us g) (tT X Wx0 ts) (tI X Wx0 it1) (tGt X us1 g1) (tT X Wx0 ts1) (tX X Wx0 el) vs vs1 σ H Q := by
  obtain ⟨ρ, W, env, A, S, h⟩ := h
  unfold xComp2 lComp2 at h
  have hb : ∀ {α β γ : Type} (o : Out α) (f : α → Out β) (k : β → Out γ), (o.bind f).bind k = o.bind fun a => (f a).bind k := by
    intro α β γ o f k; cases o <;> rfl
  rw [hb] at h
  refine tN_then S h fun xs W1 H1 env1 A1 J S1 F1 wk h1 => ?_
  intro L nL
  cases ec : cmp2L g ts it1 g1 ts1 el vs vs1 xs (wipeE env1 vs) with
  | bad => rw [ec] at h1; exact h1.elim
  | exc c d e => rw [ec] at h1; exact h1.elim
  | ok r =>
    obtain ⟨ds, envE⟩ := r
    simp only [ec] at h1
    by_cases hz : ds.length ≤ sizeLine
    · rw [if_pos hz] at h1
      have nW : W1 L = none := S1.sub.free nL
      have oL : ¬ ownd A1 L := fun z => by
        obtain ⟨_, u, hu⟩ := S1.own z
        rw [nL] at hu; cases hu
      have S2 : SR X.K X.w ρ W1 (upd H1 L (.lst [])) env1 σ A1 := S1.ex (Ex.junk S1.sub nL)
      -- the outer word
      let Wd : Nat → Hp → Prop := fun i H => i ≤ xs.length ∧ ∃ W2 env2 A2 done rest acc, SR X.K X.w ρ W2 H env2 (L2.wipe σ vs) A2 ∧ Fr W1 H1 (ownd A1) W2 H (ownd A2) ∧ W2 L = none ∧ ¬ ownd A2 L ∧ H L = some (.lst acc) ∧ RepL X.K X.w W2 done acc ∧
          done ++ rest = ds ∧ cmp2L g ts it1 g1 ts1 el vs vs1 (xs.drop i) env2 = .ok (rest, envE)
      refine ⟨fun i m H => m = xs.length - i ∧ Wd i H,
        ⟨xs.length, by simp, Nat.zero_le _, W1, _, _, [], ds, [], S2.wipe vs, ((Ex.junk S1.sub nL).fr _).trans (fr_sub fun p h => ownd_wipe h), nW, fun z => oL (ownd_wipe z), upd_same, RepL.nil, rfl, ec⟩, ?_⟩
      rintro i m H2 ⟨rfl, hi, W2, env2, A2, done, rest, acc, S3, F3, n3, o3, e3, r3, eq3, c3⟩
      by_cases hlt : i < xs.length
      · obtain ⟨x, hx⟩ : ∃ x, xs[i]? = some x := ⟨_, List.getElem?_eq_getElem hlt⟩
        have hd : xs.drop i = x :: xs.drop (i + 1) := by
          have e1 := List.drop_eq_getElem_cons hlt
          rw [List.getElem?_eq_getElem hlt] at hx
          cases hx
          exact e1
        rw [hd] at c3
        unfold cmp2L at c3
        refine .inr ⟨wk.go i H2 W2 F3.ext S3.sub hlt, Wd (i + 1), fun H' q => ⟨xs.length - (i + 1), by omega, rfl, q⟩, fun v H4 y => ?_⟩
        obtain ⟨W4, e4, r4⟩ := wk.yld i H2 W2 v H4 x F3.ext S3.sub hx y
        have S4 := S3.ex e4
        have L4 : H4 L = some (.lst acc) := e4.keep _ _ e3
        have n4 : W4 L = none := by
          cases z : W4 L with
          | none => rfl
          | some u =>
            have q := e4.new L (by rw [z]; exact fun z => nomatch z) n3
            rw [e3] at q; cases q
        cases eg : g x env2 with
        | none => rw [eg] at c3; cases c3
        | some env5 =>
          rw [eg] at c3
          simp only at c3
          refine ⟨ρ, W4, env2, A2, x, env5, S4, r4, eg, fun σ5 A5 S5 p5 a5 => ⟨?_, ?_⟩⟩
          · rw [wipe_agr a5 hus, wipe_wipe]
          · have ws : L2.wipe σ5 vs = L2.wipe σ vs := by rw [wipe_agr a5 hus, wipe_wipe]
            have F5 : Fr W1 H1 (ownd A1) W4 H4 (ownd A5) := F3.trans ((e4.fr _).trans (fr_sub p5))
            have l5 : ¬ ownd A5 L := fun z => o3 (p5 L z)
            have stay : ∀ {W0 H0 W' H' : Hp} {A0 A' : List (List Addr)} {ac : List V}, H0 L = some (.lst ac) → W0 L = none → ¬ ownd A0 L → Fr W0 H0 (ownd A0) W' H' (ownd A') → H' L = some (.lst ac) ∧ W' L = none ∧ ¬ ownd A' L := fun {W0 H0 W' H' A0 A' ac} hL hW ho F => by
              refine ⟨F.keep L _ hL ho, ?_, fun z => ?_⟩
              · cases z : W' L with
                | none => rfl
                | some u =>
                  rcases F.new L (by rw [z]; exact fun z => nomatch z) hW with q | q
                  · exact absurd q ho
                  · rw [hL] at q; cases q
              · rcases F.own L z with q | q
                · exact ho q
                · rw [hL] at q; cases q
            refine step0 S5 c3 fun b W6 H6 env6 A6 k S6 F6 r6 c6 => ?_
            subst r6
            cases k with
            | false =>
              simp only [Bool.false_eq_true, if_false] at c6
              obtain ⟨q1, q2, q3⟩ := stay L4 n4 l5 F6
              have S7 := S6.wipe vs
              rw [ws] at S7
              exact iteF ⟨hlt, W6, _, _, done, rest, acc, S7, F5.trans (F6.trans (fr_sub fun p h => ownd_wipe h)), q2, fun z => q3 (ownd_wipe z), q1, RepL.mono (e4.ext.trans F6.ext) _ _ r3, eq3, c6⟩
            | true =>
              simp only [if_true] at c6
              refine iteT (step0 S6 c6 fun ys W7 H7 env7 A7 J1 S7 F7 wk7 c7 => ?_)
              have F67 := F6.trans F7
              obtain ⟨q1, q2, q3⟩ := stay L4 n4 l5 F67
              cases ei : cmpL g1 ts1 el vs1 ys (wipeE env7 vs1) with
              | bad => rw [ei] at c7; cases c7
              | exc c d' e => rw [ei] at c7; cases c7
              | ok rr =>
                obtain ⟨dsI, envI⟩ := rr
                rw [ei, Out.bind_ok] at c7
                cases ed : cmp2L g ts it1 g1 ts1 el vs vs1 (xs.drop (i + 1)) (wipeE envI vs) with
                | bad => rw [ed] at c7; cases c7
                | exc c d' e => rw [ed] at c7; cases c7
                | ok rr =>
                  obtain ⟨rest', envE'⟩ := rr
                  rw [ed, Out.bind_ok] at c7
                  have c8 : dsI ++ rest' = rest ∧ envE' = envE := by
                    injection c7 with c7
                    injection c7 with c7 c9
                    exact ⟨c7, c9⟩
                  obtain ⟨c8, c9⟩ := c8
                  subst c9
                  have r7 : RepL X.K X.w W7 done acc := RepL.mono (e4.ext.trans F67.ext) _ _ r3
                  have F57 := F5.trans F67
                  refine ⟨fun j k H => k = ys.length - j ∧ j ≤ ys.length ∧ ∃ W8 env8 A8 dn rs ac, SR X.K X.w ρ W8 H env8 (L2.wipe σ5 vs1) A8 ∧ Fr W1 H1 (ownd A1) W8 H (ownd A8) ∧ Same W7 W8 ∧ W8 L = none ∧ ¬ ownd A8 L ∧ H L = some (.lst (acc ++ ac)) ∧ RepL X.K X.w W8 (done ++ dn) (acc ++ ac) ∧
                      dn ++ rs = dsI ∧ cmpL g1 ts1 el vs1 (ys.drop j) env8 = .ok (rs, envI),
                    ⟨ys.length, by simp, Nat.zero_le _, W7, _, _, [], dsI, [], S7.wipe vs1, F57.trans (fr_sub fun p h => ownd_wipe h), Same.refl _, q2, fun z => q3 (ownd_wipe z), by rw [List.append_nil]; exact q1, by rw [List.append_nil, List.append_nil]; exact r7, rfl, ei⟩, ?_⟩
                  rintro j k H8 ⟨rfl, hj, W8, env8, A8, dn, rs, ac, S8, F8, s8, n8, o8, e8, r8, eq8, c8'⟩
                  by_cases hlt1 : j < ys.length
                  · obtain ⟨x1, hx1⟩ : ∃ x, ys[j]? = some x := ⟨_, List.getElem?_eq_getElem hlt1⟩
                    have hd1 : ys.drop j = x1 :: ys.drop (j + 1) := by
                      have e1 := List.drop_eq_getElem_cons hlt1
                      rw [List.getElem?_eq_getElem hlt1] at hx1
                      cases hx1
                      exact e1
                    rw [hd1] at c8'
                    unfold cmpL at c8'
                    refine .inr ⟨wk7.go j H8 W8 s8 S8.sub hlt1, fun H => j + 1 ≤ ys.length ∧ ∃ W8 env8 A8 dn rs ac, SR X.K X.w ρ W8 H env8 (L2.wipe σ5 vs1) A8 ∧ Fr W1 H1 (ownd A1) W8 H (ownd A8) ∧ Same W7 W8 ∧ W8 L = none ∧ ¬ ownd A8 L ∧ H L = some (.lst (acc ++ ac)) ∧ RepL X.K X.w W8 (done ++ dn) (acc ++ ac) ∧
                        dn ++ rs = dsI ∧ cmpL g1 ts1 el vs1 (ys.drop (j + 1)) env8 = .ok (rs, envI), fun H' ⟨u1, u2⟩ => ⟨ys.length - (j + 1), by omega, rfl, u1, u2⟩, fun v1 H9 y1 => ?_⟩
                    obtain ⟨W9, e9, r9⟩ := wk7.yld j H8 W8 v1 H9 x1 s8 S8.sub hx1 y1
                    have S9 := S8.ex e9
                    have L9 : H9 L = some (.lst (acc ++ ac)) := e9.keep _ _ e8
                    have n9 : W9 L = none := by
                      cases z : W9 L with
                      | none => rfl
                      | some u =>
                        have q := e9.new L (by rw [z]; exact fun z => nomatch z) n8
                        rw [e8] at q; cases q
                    cases eg1 : g1 x1 env8 with
                    | none => rw [eg1] at c8'; cases c8'
                    | some env10 =>
                      rw [eg1] at c8'
                      simp only at c8'
                      refine ⟨ρ, W9, env8, A8, x1, env10, S9, r9, eg1, fun σ10 A10 S10 p10 a10 => ⟨?_, ?_⟩⟩
                      · rw [wipe_agr a10 hus1, wipe_wipe]
                      · have ws1 : L2.wipe σ10 vs1 = L2.wipe σ5 vs1 := by rw [wipe_agr a10 hus1, wipe_wipe]
                        have F10 : Fr W1 H1 (ownd A1) W9 H9 (ownd A10) := F8.trans ((e9.fr _).trans (fr_sub p10))
                        have l10 : ¬ ownd A10 L := fun z => o8 (p10 L z)
                        refine step0 S10 c8' fun b W11 H11 env11 A11 k S11 F11 r11 c11 => ?_
                        subst r11
                        cases k with
                        | false =>
                          simp only [Bool.false_eq_true, if_false] at c11
                          obtain ⟨z1, z2, z3⟩ := stay L9 n9 l10 F11
                          have S12 := S11.wipe vs1
                          rw [ws1] at S12
                          exact iteF ⟨hlt1, W11, _, _, dn, rs, ac, S12, F10.trans (F11.trans (fr_sub fun p h => ownd_wipe h)), s8.trans (e9.ext.trans F11.ext), z2, fun z => z3 (ownd_wipe z), z1, RepL.mono (e9.ext.trans F11.ext) _ _ r8, eq8, c11⟩
                        | true =>
                          simp only [if_true] at c11
                          refine iteT (step0 S11 c11 fun d W12 H12 env12 A12 v12 S12 F12 r12 c12 => ?_)
                          have F112 := F11.trans F12
                          obtain ⟨z1, z2, z3⟩ := stay L9 n9 l10 F112
                          cases ed1 : cmpL g1 ts1 el vs1 (ys.drop (j + 1)) (wipeE env12 vs1) with
                          | bad => rw [ed1] at c12; cases c12
                          | exc c d' e => rw [ed1] at c12; cases c12
                          | ok rr =>
                            obtain ⟨rs', envI'⟩ := rr
                            rw [ed1, Out.bind_ok] at c12
                            have c13 : d :: rs' = rs ∧ envI' = envI := by
                              injection c12 with c12
                              injection c12 with c12 c14
                              exact ⟨c12, c14⟩
                            obtain ⟨c13, c14⟩ := c13
                            subst c14
                            have r13 : RepL X.K X.w W12 (done ++ dn) (acc ++ ac) := RepL.mono (e9.ext.trans F112.ext) _ _ r8
                            have hlen : (acc ++ ac).length < sizeLine := by
                              rw [r13.len]
                              have e1 := congrArg List.length eq3
                              rw [List.length_append, ← c8, List.length_append, ← eq8, List.length_append, ← c13, List.length_cons] at e1
                              rw [List.length_append]
                              omega
                            have S13 : SR X.K X.w ρ W12 (upd H12 L (.lst (acc ++ ac ++ [v12]))) env12 σ10 A12 := by
                              refine S12.keep (Same.refl _) (fun b u q => ?_) fun b hb => ⟨upd_ne fun e => z3 (e ▸ hb), (S12.own hb).1⟩
                              rw [upd_ne (fun e => by rw [e, z2] at q; cases q)]
                              exact S12.sub b u q
                            have S14 := S13.wipe vs1
                            rw [ws1] at S14
                            refine ⟨acc ++ ac, z1, hlen, hlt1, W12, _, _, dn ++ [d], rs', ac ++ [v12], S14, ?_, s8.trans (e9.ext.trans F112.ext), z2, fun z => z3 (ownd_wipe z), by rw [← List.append_assoc]; exact upd_same, by rw [← List.append_assoc, ← List.append_assoc]; exact RepL.snoc r13 r12, by rw [List.append_assoc]; exact (by rw [← eq8, ← c13]; rfl), ed1⟩
                            have F13 := F10.trans F112
                            refine ⟨F13.ext, fun b u hb hp => ?_, F13.new, fun b hb => F13.own b (ownd_wipe hb)⟩
                            have e : b ≠ L := fun e => by rw [e, nL] at hb; cases hb
                            rw [upd_ne e]
                            exact F13.keep b u hb hp
                  · have ej : j = ys.length := by omega
                    subst ej
                    refine .inl ⟨wk7.stop _ H8 W8 s8 S8.sub (Nat.le_refl _), ?_⟩
                    rw [List.drop_length] at c8'
                    unfold cmpL at c8'
                    have c9 : rs = [] ∧ env8 = envI := by
                      injection c8' with c3
                      injection c3 with c3 c5
                      exact ⟨c3.symm, c5⟩
                    obtain ⟨rfl, rfl⟩ := c9
                    rw [List.append_nil] at eq8
                    subst eq8
                    have S9 := S8.wipe vs
                    have ww : L2.wipe (L2.wipe σ5 vs1) vs = L2.wipe σ vs := by
                      rw [wipe_agr (us := vs1) (σ := σ5) ⟨wipe_length _ _, fun j hj => wipe_out vs1 hj⟩ hv, ws]
                    rw [ww] at S9
                    exact ⟨hlt, W8, _, _, done ++ dn, rest', acc ++ ac, S9, F8.trans (fr_sub fun p h => ownd_wipe h), n8, fun z => o8 (ownd_wipe z), e8, r8, by rw [List.append_assoc, c8]; exact eq3, ed⟩
      · have ei : i = xs.length := by omega
        subst ei
        refine .inl ⟨wk.stop _ H2 W2 F3.ext S3.sub (Nat.le_refl _), ?_⟩
        rw [List.drop_length] at c3
        unfold cmp2L at c3
        have c4 : rest = [] ∧ env2 = envE := by
          injection c3 with c3
          injection c3 with c3 c5
          exact ⟨c3.symm, c5⟩
        obtain ⟨rfl, rfl⟩ := c4
        rw [List.append_nil] at eq3
        subst eq3
        exact h1 W2 H2 _ L (SR.back S3 S1 F3.ext) (F3.trans (fr_sub fun p h => ownd_wipe h)) n3 ⟨acc, e3, r3⟩ (fun z => o3 (ownd_wipe z)) (.inr nL)
    · rw [if_neg hz] at h1
      exact h1.elim
theorem en_comp2 (hc : X.calm = true) (hN : X.N.Nodup) (hi : EI X Wx tg iter it) (ok : BlkOk X.N X.env.scope scope own) (hv : ∀ j ∈ vs1, j ∈ own.map (·.2)) (hus : us ⊆ own.map (·.2)) (hus1 : us1 ⊆ vs1)
    (hg : ∀ (s : Shared) (H : Hp) (C : Addr) (cl : List (Str × Addr)) (fp : List Addr), EG (X.blk s H scope (compEnvC scope cl C X.env) fp) tg us g) (ht : ∀ (s : Shared) (H : Hp) (C : Addr) (cl : List (Str × Addr)) (fp : List Addr), EQ (X.blk s H scope (compEnvC scope cl C X.env) fp) Wx0 ifs ts)
    (hi1 : ∀ (s : Shared) (H : Hp) (C : Addr) (cl : List (Str × Addr)) (fp : List Addr), EI (X.blk s H scope (compEnvC scope cl C X.env) fp) Wx0 tg1 iter1 it1)
    (hg1 : ∀ (s : Shared) (H : Hp) (C : Addr) (cl : List (Str × Addr)) (fp : List Addr), EG (X.blk s H scope (compEnvC scope cl C X.env) fp) tg1 us1 g1) (ht1 : ∀ (s : Shared) (H : Hp) (C : Addr) (cl : List (Str × Addr)) (fp : List Addr), EQ (X.blk s H scope (compEnvC scope cl C X.env) fp) Wx0 ifs1 ts1)
    (he : ∀ (s : Shared) (H : Hp) (C : Addr) (cl : List (Str × Addr)) (fp : List Addr), EX (X.blk s H scope (compEnvC scope cl C X.env) fp) Wx0 elt el) (hs : ∀ x, foldedSetIterable iter X.env x = pure x := by intro _; rfl) (hs1 : ∀ env x, foldedSetIterable iter1 env x = pure x := by intro _ _; rfl) :
    EN X Wx (.ListComp elt [⟨tg, iter, ifs, 0⟩, ⟨tg1, iter1, ifs1, 0⟩] scope pos) (xComp2 it g ts it1 g1 ts1 el (own.map (·.2)) vs1) :=
  PE.wk (pe_lc2 hc hN hi ok hv hg ht hi1 hg1 ht1 he hs hs1) fun σ H Q h => comp2_read (fun j hj => hus hj) (fun j hj => hus1 hj) hv h
theorem es_setComp2 {i : Nat} {y : Str} {py spos : Pos} (hc : X.calm = true) (hN : X.N.Nodup) (hy : X.N[i]? = some y) (hyl : X.env.scope.names.lookup y = some .local)
    (hsw : swapsWith (.ListComp elt [⟨tg, iter, ifs, 0⟩, ⟨tg1, iter1, ifs1, 0⟩] scope pos) (some (.Name y py)) spos.line X.env = pure true) (hi : EI X Wx tg iter it) (ok : BlkOk X.N X.env.scope scope own) (hv : ∀ j ∈ vs1, j ∈ own.map (·.2)) (hus : us ⊆ own.map (·.2)) (hus1 : us1 ⊆ vs1)
    (hg : ∀ (s : Shared) (H : Hp) (C : Addr) (cl : List (Str × Addr)) (fp : List Addr), EG (X.blk s H scope (compEnvC scope cl C X.env) fp) tg us g) (ht : ∀ (s : Shared) (H : Hp) (C : Addr) (cl : List (Str × Addr)) (fp : List Addr), EQ (X.blk s H scope (compEnvC scope cl C X.env) fp) Wx0 ifs ts)
    (hi1 : ∀ (s : Shared) (H : Hp) (C : Addr) (cl : List (Str × Addr)) (fp : List Addr), EI (X.blk s H scope (compEnvC scope cl C X.env) fp) Wx0 tg1 iter1 it1)
    (hg1 : ∀ (s : Shared) (H : Hp) (C : Addr) (cl : List (Str × Addr)) (fp : List Addr), EG (X.blk s H scope (compEnvC scope cl C X.env) fp) tg1 us1 g1) (ht1 : ∀ (s : Shared) (H : Hp) (C : Addr) (cl : List (Str × Addr)) (fp : List Addr), EQ (X.blk s H scope (compEnvC scope cl C X.env) fp) Wx0 ifs1 ts1)
    (he : ∀ (s : Shared) (H : Hp) (C : Addr) (cl : List (Str × Addr)) (fp : List Addr), EX (X.blk s H scope (compEnvC scope cl C X.env) fp) Wx0 elt el) (hs : ∀ x, foldedSetIterable iter X.env x = pure x := by intro _; rfl) (hs1 : ∀ env x, foldedSetIterable iter1 env x = pure x := by intro _ _; rfl) :
    ES X Wx (.Assign [.Name y py] (.ListComp elt [⟨tg, iter, ifs, 0⟩, ⟨tg1, iter1, ifs1, 0⟩] scope pos) spos) (sSet i (xComp2 it g ts it1 g1 ts1 el (own.map (·.2)) vs1)) :=
  PS.wk (ps_setLc2 hc hN hy hyl hsw hi ok hv hg ht hi1 hg1 ht1 he hs hs1) fun D σ H h => comp2_read (fun j hj => hus hj) (fun j hj => hus1 hj) hv (tX_tN (set_read h))
end
end DP
set_option Elab.async false
set_option linter.all false
set_option maxRecDepth 100000
/-! DP, part 8: defs and their calls. -/
namespace DP
open PySem PySem.Spec PyProof.Rows L2

abbrev FD := List D → Out D
/-- what a caller wants of a def that changes nothing -/
def onF (K : PySem.W.Frag) (w : World) (mg : Str → Option Value) (W H : Hp) (o : Out D) (Q : VK) (E : XK) : Prop := match o with
  | .ok d => ∀ W' H' v, Ex W H W' H' → Rep K w W' d v → Q v H'
  | .exc c d _ => ∀ C W' H' dx v, mg c = some (.ref C) → Ex W H W' H' → H' dx = some (.xd [("at", v)]) → Rep K w W' d v → E (.ref C) (some dx) H'
  | .bad => False
/-- the promise of a def that reckons F, of n parameters -/
def spF (K : PySem.W.Frag) (w : World) (mg : Str → Option Value) (n : Nat) (F : FD) : Sp := fun vs H Q E => ∃ W ds, Same W H ∧ RepL K w W ds vs ∧ ds.length = n ∧ onF K w mg W H (F ds) Q E
/-- a body of n slots run at the parameters -/
def runB (n : Nat) (B : SF) (ds : List D) : Out D := match B (ds.map .fz ++ List.replicate (n - ds.length) .no) with
  | .ok (.rt d, _) => .ok d
  | .ok (.nx, _) => .ok .none
  | .ok _ => .bad
  | .exc c d e => .exc c d e
  | .bad => .bad
def xCall (n : Nat) (F : FD) (g : AF) : XF := fun env => (g env).bind fun r => if r.1.length = n then (match F r.1 with
  | .ok d => .ok (d, r.2)
  | .exc c d _ => .exc c d r.2
  | .bad => .bad) else .bad

theorem Fr.ex {W H W' H' : Hp} {P P' : Addr → Prop} (F : Fr W H P W' H' P') (hP : ∀ p, ¬ P p) (s : Same W' H') : Ex W H W' H' :=
  ⟨F.ext, fun p o h => F.keep p o h (hP p), s, fun p h1 h2 => (F.new p h1 h2).resolve_left (hP p)⟩
theorem own_none {n : Nat} (p : Addr) : ¬ ownd (List.replicate n []) p := fun ⟨i, l, h, hp⟩ => by
  rw [List.getElem?_replicate] at h
  split at h
  · cases h; cases hp
  · cases h
/-- the parameters' picture -/
theorem SR.start {K : PySem.W.Frag} {w : World} {ρ : Nat → Addr} {W H : Hp} {ds : List D} {vs : List V} {N : List Str} (s : Same W H) (r : RepL K w W ds vs) :
    SR K w ρ W H (ds.map .fz ++ List.replicate (N.length - ds.length) .no) (L2.start N vs) (List.replicate (L2.start N vs).length []) := by
  have hl := r.len
  refine ⟨s, ?_, by simp, fun i sl v l h1 h2 h3 => ?_, fun i j l m p h1 h2 h3 _ => ?_⟩
  · unfold L2.start
    simp only [List.length_append, List.length_map, List.length_replicate]
    omega
  · rw [List.getElem?_replicate] at h3
    split at h3
    · cases h3
      unfold L2.start at h2
      by_cases hi : i < ds.length
      · rw [List.getElem?_append_left (by simpa using hi), List.getElem?_map, List.getElem?_eq_getElem hi] at h1
        cases h1
        rw [List.getElem?_append_left (by simp; omega), List.getElem?_map] at h2
        obtain ⟨x, hx, rx⟩ := r.at (List.getElem?_eq_getElem hi)
        rw [hx] at h2
        cases h2
        exact ⟨rfl, x, rfl, rx⟩
      · rw [List.getElem?_append_right (by simp; omega), List.getElem?_replicate] at h1
        split at h1 <;> cases h1
        exact rfl
    · cases h3
  · exact absurd ⟨i, l, h1, h3⟩ (own_none p)
section
variable {P : Program} {w : World} {K : PySem.W.Frag} {mg : Str → Option Value} {base : Heap}
/-- A DEF: its body's rules, and what they reckon -/
theorem fn_pure {x qual : Str} {st : Stmt} {f : Addr} {fd : FuncData} {N ps : List Str} {k : Nat} {F : FD} {B : SF} (Fn : Fun K x qual st f fd) (S : FnScope N ps (defScope st)) (hF : ∀ ds, ds.length = ps.length → F ds = runB N.length B ds)
    (body : ∀ (cdv : Value) (A : Around) (outer : List Env) (s : Shared) (H : Hp) (E : XK), Room k (A.deeper (envOfC qual (defScope st) s.heap.objs.size f cdv)) →
      EB (cxOf (L2.CX P w) P w K mg base N qual (defScope st) f cdv A outer s H E) (fun cls d _ H => E cls d H) (defBody st) B) :
    FnOk P w K mg base (L2.CX P w) (k + 1) f fd ps (spF K w mg ps.length F) := by
  refine Fn.okX S (fun vs H Q E h => ?_) fun cdv A outer s H vs Q E hr h => ⟨_, body cdv A outer s H E hr, ?_⟩
  · obtain ⟨W, ds, _, r, hl, _⟩ := h
    exact r.len.trans hl
  · obtain ⟨W, ds, sm, r, hl, h⟩ := h
    refine ⟨fun _ => 0, W, _, _, SR.start sm r, ?_⟩
    rw [hF ds hl] at h
    unfold runB at h
    have ex : ∀ {W' H' : Hp} {A' : List (List Addr)}, Same W' H' → Fr W H (ownd (List.replicate (L2.start N vs).length [])) W' H' (ownd A') → Ex W H W' H' := fun s F => F.ex own_none s
    cases eb : B (ds.map .fz ++ List.replicate (N.length - ds.length) .no) with
    | bad => rw [eb] at h; exact h.elim
    | exc c d e =>
      rw [eb] at h
      exact fun C W' H' A' σ' dx v g S' F' x r' => h C W' H' dx v g (ex S'.sub F') x r'
    | ok q =>
      obtain ⟨fl, env'⟩ := q
      rw [eb] at h
      cases fl with
      | nx => exact fun W' H' A' σ' S' F' => h W' H' _ (ex S'.sub F') rfl
      | rt d => exact fun W' H' A' σ' S' F' v rv => h W' H' v (ex S'.sub F') rv
      | bk => exact h.elim
      | ct => exact h.elim
end
section
variable {X : Cx} {Wx : WX} {k n : Nat} {f : Addr} {fd : FuncData} {ps : List Str} {F : FD} {x : Str} {p pos : Pos} {e : Expr} {es : List Expr} {g : AF}
theorem ex_call (G : FnOk X.prog X.w X.K X.mg X.base (L2.CX X.prog X.w) k f fd ps (spF X.K X.w X.mg n F)) (hr : Room k X.A) (hg : Gl X x) (hm : X.mg x = some (.ref f)) (hk : PySem.W.keepIn X.K (.ref f) = true) (hb : Binds X.K fd ps [])
    (tk : Takes X Wx) (ha : EA X Wx (e :: es) g) (hdb : (x == ("__debug__" : Str)) = false := by decide) (he : starEach (e :: es) X.env = (false, eval e X.env) :: starEach es X.env := by rfl) (hpl : (backTo pos (starEach es X.env)).any (·.1) = false := by rfl) :
    EX X Wx (.Call (.Name x p) (e :: es) [] pos) (xCall n F g) := by
  refine PE.wk (pe_callSD (E := fun σ cls d H => Wx cls d σ H) G hr hg hm hk hb .nil (fun σ => passAt tk σ) ha hdb he hpl) ?_
  rintro σ H Q ⟨ρ, W, env, A, S, h⟩
  refine tG_then S h fun ds W1 H1 env1 A1 vs S1 F1 r1 h1 => ?_
  by_cases hn : ds.length = n
  · simp only [if_pos hn] at h1
    rw [List.append_nil]
    refine ⟨W1, ds, S1.sub, r1, hn, ?_⟩
    cases eF : F ds with
    | bad => rw [eF] at h1; exact h1.elim
    | ok d =>
      rw [eF] at h1
      exact fun W' H' v ex r => h1 W' H' A1 v (S1.ex ex) (ex.fr _) r
    | exc c d e' =>
      rw [eF] at h1
      exact fun C W' H' dx v g ex hx r => h1 C W' H' A1 dx v g (S1.ex ex) (ex.fr _) hx r
  · simp only [if_neg hn] at h1
    exact h1.elim
end
/-! ### built-ins -/
section
variable {X : Cx} {Wx : WX} {x : Str} {id T : String} {p pos : Pos} {e : Expr} {es : List Expr} {g : AF} {op : List D → Option D}
theorem ex_blt (hc : CallR X (.builtin id) (tVn X.K X.w op)) (hg : Gl X x) (hm : X.mg x = none) (hv : bootBuiltins x = some (.builtin id)) (ha : EA X Wx (e :: es) g) (hn : x ≠ "__name__" := by decide) (hdb : (x == ("__debug__" : Str)) = false := by decide)
    (he : starEach (e :: es) X.env = (false, eval e X.env) :: starEach es X.env := by rfl) (hpl : (backTo pos (starEach es X.env)).any (·.1) = false := by rfl) : EX X Wx (.Call (.Name x p) (e :: es) [] pos) (xn op g) := by
  refine PE.wk (pe_callB hc hg hm hv ha hn hdb he hpl) ?_
  rintro σ H Q ⟨ρ, W, env, A, S, h⟩
  exact tG_then S h fun ds W1 H1 env1 A1 vs S1 F1 r1 h1 => ⟨W1, ds, S1.sub, r1, onV_of S1 h1⟩
theorem en_blt (hc : CallR X (.builtin id) (tWn X.K X.w op)) (hg : Gl X x) (hm : X.mg x = none) (hv : bootBuiltins x = some (.builtin id)) (ha : EA X Wx (e :: es) g) (hn : x ≠ "__name__" := by decide) (hdb : (x == ("__debug__" : Str)) = false := by decide)
    (he : starEach (e :: es) X.env = (false, eval e X.env) :: starEach es X.env := by rfl) (hpl : (backTo pos (starEach es X.env)).any (·.1) = false := by rfl) : EN X Wx (.Call (.Name x p) (e :: es) [] pos) (xn op g) := by
  refine PE.wk (pe_callB hc hg hm hv ha hn hdb he hpl) ?_
  rintro σ H Q ⟨ρ, W, env, A, S, h⟩
  exact tN_then S h fun ds W1 H1 env1 A1 vs S1 F1 r1 h1 => ⟨W1, ds, S1.sub, r1, onW_of S1 h1⟩
theorem ex_bty (hc : CallR X (.type T) (tVn X.K X.w op)) (hg : Gl X x) (hm : X.mg x = none) (hv : bootBuiltins x = some (.type T)) (ha : EA X Wx (e :: es) g) (hn : x ≠ "__name__" := by decide) (hdb : (x == ("__debug__" : Str)) = false := by decide)
    (he : starEach (e :: es) X.env = (false, eval e X.env) :: starEach es X.env := by rfl) (hpl : (backTo pos (starEach es X.env)).any (·.1) = false := by rfl) : EX X Wx (.Call (.Name x p) (e :: es) [] pos) (xn op g) := by
  refine PE.wk (pe_callTy hc hg hm hv ha hn hdb he hpl) ?_
  rintro σ H Q ⟨ρ, W, env, A, S, h⟩
  exact tG_then S h fun ds W1 H1 env1 A1 vs S1 F1 r1 h1 => ⟨W1, ds, S1.sub, r1, onV_of S1 h1⟩
theorem en_bty (hc : CallR X (.type T) (tWn X.K X.w op)) (hg : Gl X x) (hm : X.mg x = none) (hv : bootBuiltins x = some (.type T)) (ha : EA X Wx (e :: es) g) (hn : x ≠ "__name__" := by decide) (hdb : (x == ("__debug__" : Str)) = false := by decide)
    (he : starEach (e :: es) X.env = (false, eval e X.env) :: starEach es X.env := by rfl) (hpl : (backTo pos (starEach es X.env)).any (·.1) = false := by rfl) : EN X Wx (.Call (.Name x p) (e :: es) [] pos) (xn op g) := by
  refine PE.wk (pe_callTy hc hg hm hv ha hn hdb he hpl) ?_
  rintro σ H Q ⟨ρ, W, env, A, S, h⟩
  exact tN_then S h fun ds W1 H1 env1 A1 vs S1 F1 r1 h1 => ⟨W1, ds, S1.sub, r1, onW_of S1 h1⟩
end
end DP
set_option Elab.async false
set_option linter.all false
set_option maxRecDepth 100000
/-! DP, part 9: what is walked; built-ins. -/
namespace DP
open PySem PySem.Spec PyProof.Rows L2

/-! ### walks -/
section
variable {K : PySem.W.Frag} {w : World} {W : Hp}
theorem wk_list {ds : List D} {a : Addr} {vs : List V} (h : W a = some (.lst vs)) (r : RepL K w W ds vs) : Wk K w W ds (Itl K a) where
  go i H W2 s1 s2 hi := by
    obtain ⟨x, hx, _⟩ := r.at (List.getElem?_eq_getElem hi)
    exact ⟨vs, x, .of (s2 _ _ (s1 _ _ h)), hx⟩
  stop i H W2 s1 s2 hi := ⟨vs, .of (s2 _ _ (s1 _ _ h)), by rw [r.len]; exact hi⟩
  yld i H W2 v H' x s1 s2 hx y := by
    obtain ⟨rfl, y⟩ := y
    obtain ⟨u, hu, ru⟩ := r.at hx
    have e := y vs (.of (s2 _ _ (s1 _ _ h)))
    rw [hu] at e
    cases e
    exact ⟨W2, Ex.refl s2, Rep.mono s1 _ _ ru⟩
theorem wk_tup {ds : List D} {a : Addr} {vs : List V} (h : SqT K W a vs) (r : RepL K w W ds vs) : Wk K w W ds (Itt K a) where
  go i H W2 s1 s2 hi := by
    obtain ⟨x, hx, _⟩ := r.at (List.getElem?_eq_getElem hi)
    exact ⟨vs, x, Same.sqt s2 (Same.sqt s1 h), hx⟩
  stop i H W2 s1 s2 hi := ⟨vs, Same.sqt s2 (Same.sqt s1 h), by rw [r.len]; exact hi⟩
  yld i H W2 v H' x s1 s2 hx y := by
    obtain ⟨rfl, y⟩ := y
    obtain ⟨u, hu, ru⟩ := r.at hx
    have e := y vs (Same.sqt s2 (Same.sqt s1 h))
    rw [hu] at e
    cases e
    exact ⟨W2, Ex.refl s2, Rep.mono s1 _ _ ru⟩
/-- lo, lo + c, .. (n of them) -/
def rngD (lo c : Int) (n : Nat) : List D := (List.range n).map fun (i : Nat) => .int (lo + (i : Int) * c)
theorem rngD_at {lo c : Int} {n i : Nat} {x : D} (h : (rngD lo c n)[i]? = some x) : i < n ∧ x = .int (lo + (i : Int) * c) := by
  unfold rngD at h
  rw [List.getElem?_map] at h
  cases e : (List.range n)[i]? with
  | none => rw [e] at h; cases h
  | some j =>
    rw [e] at h
    have hl := (List.getElem?_eq_some_iff.mp e).1
    rw [List.length_range] at hl
    rw [List.getElem?_range hl] at e
    cases e
    cases h
    exact ⟨hl, rfl⟩
theorem rngD_len (lo c : Int) (n : Nat) : (rngD lo c n).length = n := by simp [rngD]
theorem wk_rng {lo : Int} {n : Nat} : Wk K w W (rngD lo 1 n) (Itr lo n) where
  go i H W2 s1 s2 hi := by rw [rngD_len] at hi; exact hi
  stop i H W2 s1 s2 hi := by rw [rngD_len] at hi; exact hi
  yld i H W2 v H' x s1 s2 hx y := by
    obtain ⟨rfl, rfl⟩ := y
    obtain ⟨hi, rfl⟩ := rngD_at hx
    exact ⟨W2, Ex.refl s2, by simp only [Rep, Int.mul_one]⟩
theorem wk_rngC {lo c : Int} {n : Nat} : Wk K w W (rngD lo c n) (Itc lo c n) where
  go i H W2 s1 s2 hi := by rw [rngD_len] at hi; exact hi
  stop i H W2 s1 s2 hi := by rw [rngD_len] at hi; exact hi
  yld i H W2 v H' x s1 s2 hx y := by
    obtain ⟨rfl, rfl⟩ := y
    obtain ⟨hi, rfl⟩ := rngD_at hx
    exact ⟨W2, Ex.refl s2, rfl⟩
end
/-- the items of a list, a tuple -/
def seqD : D → Option (List D)
  | .list ds => some ds
  | .tuple ds => some ds
  | _ => none
def iSeq (f : XF) : IF := fun env => (f env).bind fun r => liftO (seqD r.1) r.2
def s62 (i : Int) : Bool := decide (-(2 ^ 62) ≤ i) && decide (i < 2 ^ 62)
theorem s62_iff {i : Int} : s62 i = true ↔ -(2 ^ 62) ≤ i ∧ i < 2 ^ 62 := by simp [s62]
def rng1 : List D → Option (List D)
  | [.int j] => if s62 j then some (rngD 0 1 j.toNat) else none
  | _ => none
def rng2 : List D → Option (List D)
  | [.int i, .int j] => if s62 i && s62 j then some (rngD i 1 (j - i).toNat) else none
  | _ => none
/-- how many turns range(i, j, c) takes -/
def rngN (i j c : Int) : Nat := (Builtin.Range.rangeSize i j c).toNat
def rng3 : List D → Option (List D)
  | [.int i, .int j, .int c] => if c ≠ 0 ∧ c.natAbs < 1073741824 ∧ Builtin.Range.small i j c = true then some (rngD i c (rngN i j c)) else none
  | _ => none
def iArgs (op : List D → Option (List D)) (f : AF) : IF := fun env => (f env).bind fun r => liftO (op r.1) r.2
section
variable {X : Cx} {Wx : WX} {tg a b c e : Expr} {es : List Expr} {f : XF} {g : AF} {p pos : Pos}
/-- a list or a tuple, as it comes -/
theorem pi_seq {tl : TE} (hl : PE X e tl) : PI X tg e (fun σ H R => tl σ H fun x H1 => (∃ a, x = .ref a ∧ (∃ xs, SqL X.K H1 a xs) ∧ R (Itl X.K a) H1) ∨ (∃ a, x = .ref a ∧ (∃ xs, SqT X.K H1 a xs) ∧ R (Itt X.K a) H1)) := by
  refine ⟨fun pins s σ H R I h => ?_⟩
  refine thn (hl.run pins s σ H _ I h) fun u s1 ⟨x, H1, I1, r1, q1⟩ => ?_
  rcases q1 with ⟨a, ex, ⟨xs, hq⟩, q⟩ | ⟨a, ex, ⟨xs, hq⟩, q⟩
  · subst ex
    cases r1
    obtain ⟨us, _, pl, _⟩ := I1.list hq
    exact wpAny_pyIter_list pl.isList (pi_one (tk := s1.toks) I1 _ (turn_list a _) ⟨_, Heap.get?_push_size _ rfl, rfl, rfl⟩ q)
  · subst ex
    cases r1
    obtain ⟨us, _, pl, _⟩ := I1.tuple hq
    exact wpAny_pyIter_tuple (show s1.heap.IsTuple a us.toArray from pl) (pi_one (tk := s1.toks) I1 _ (turn_tuple a _) ⟨_, Heap.get?_push_size _ rfl, rfl, rfl⟩ q)
theorem wk_of {o : Option (List D)} {ρ : Nat → Addr} {σ : L2.St} {W H : Hp} {A : List (List Addr)} {env : Ev} {R : It → Hp → Prop} {J : It} {xs : List D}
    (S : SR X.K X.w ρ W H env σ A) (h : onG X.K X.w X.mg Wx (fun W xs J => Wk X.K X.w W xs J) ρ σ W H A (liftO o env) R) (ho : o = some xs) (wk : Wk X.K X.w W xs J) : R J H := by
  subst ho
  exact h W H A J S (Fr.refl _ _ _) wk
theorem ei_seq (h : EX X Wx e f) : EI X Wx tg e (iSeq f) := by
  refine PI.wk (pi_seq h) ?_
  rintro σ H R ⟨ρ, W, env, A, S, h⟩
  refine tG_then S h fun d W1 H1 env1 A1 v S1 F1 r1 h1 => ?_
  cases d with
  | list ds =>
    simp only [Rep] at r1
    obtain ⟨a, vs, rfl, q, l⟩ := r1
    exact .inl ⟨a, rfl, ⟨vs, .of (S1.sub _ _ q)⟩, wk_of S1 h1 rfl (wk_list q l)⟩
  | tuple ds =>
    simp only [Rep] at r1
    obtain ⟨a, vs, rfl, q, l⟩ := r1
    exact .inr ⟨a, rfl, ⟨vs, Same.sqt S1.sub q⟩, wk_of S1 h1 rfl (wk_tup q l)⟩
  | _ => exact h1.elim
theorem RepL.int1 {K : PySem.W.Frag} {w : World} {W : Hp} {j : Int} {vs : List V} (h : RepL K w W [.int j] vs) : vs = [.int j] := by
  simp only [RepL, Rep] at h
  obtain ⟨v, r, rfl, rfl, rfl⟩ := h
  rfl
theorem RepL.int2 {K : PySem.W.Frag} {w : World} {W : Hp} {i j : Int} {vs : List V} (h : RepL K w W [.int i, .int j] vs) : vs = [.int i, .int j] := by
  simp only [RepL, Rep] at h
  obtain ⟨v, r, rfl, rfl, v', r', rfl, rfl, rfl⟩ := h
  rfl
theorem RepL.int3 {K : PySem.W.Frag} {w : World} {W : Hp} {i j k : Int} {vs : List V} (h : RepL K w W [.int i, .int j, .int k] vs) : vs = [.int i, .int j, .int k] := by
  simp only [RepL, Rep] at h
  obtain ⟨v, r, rfl, rfl, v', r', rfl, rfl, v'', r'', rfl, rfl, rfl⟩ := h
  rfl
theorem ei_rng1 (hg : Gl X "range") (hm : X.mg "range" = none) (h : EA X Wx [a] g) (hs : starEach [a] X.env = [(false, eval a X.env)] := by rfl) : EI X Wx tg (.Call (.Name "range" p) [a] [] pos) (iArgs rng1 g) := by
  refine PI.wk (pi_range1 hg hm h hs) ?_
  rintro σ H R ⟨ρ, W, env, A, S, h⟩
  refine tG_then S h fun ds W1 H1 env1 A1 vs S1 F1 r1 h1 => ?_
  simp only [rng1] at h1
  split at h1
  · split at h1
    · rename_i c
      obtain ⟨c1, c2⟩ := s62_iff.mp c
      exact ⟨_, r1.int1, c1, c2, wk_of S1 h1 rfl wk_rng⟩
    · exact h1.elim
  · exact h1.elim
theorem ei_rng2 (hg : Gl X "range") (hm : X.mg "range" = none) (h : EA X Wx [a, b] g) (hs : starEach [a, b] X.env = [(false, eval a X.env), (false, eval b X.env)] := by rfl) (hs2 : starEach [b] X.env = [(false, eval b X.env)] := by rfl) :
    EI X Wx tg (.Call (.Name "range" p) [a, b] [] pos) (iArgs rng2 g) := by
  refine PI.wk (pi_range2 hg hm h hs hs2) ?_
  rintro σ H R ⟨ρ, W, env, A, S, h⟩
  refine tG_then S h fun ds W1 H1 env1 A1 vs S1 F1 r1 h1 => ?_
  simp only [rng2] at h1
  split at h1
  · split at h1
    · rename_i c
      rw [Bool.and_eq_true, s62_iff, s62_iff] at c
      exact ⟨_, _, r1.int2, ⟨c.1.1, c.1.2, c.2.1, c.2.2⟩, wk_of S1 h1 rfl wk_rng⟩
    · exact h1.elim
  · exact h1.elim
theorem ei_rng3 (hg : Gl X "range") (hm : X.mg "range" = none) (h : EA X Wx [a, b, c] g) (hs : starEach [a, b, c] X.env = (false, eval a X.env) :: starEach [b, c] X.env := by rfl) (hpl : (backTo pos (starEach [b, c] X.env)).any (·.1) = false := by rfl) :
    EI X Wx tg (.Call (.Name "range" p) [a, b, c] [] pos) (iArgs rng3 g) := by
  refine PI.wk (pi_range3 hg hm h hs hpl) ?_
  rintro σ H R ⟨ρ, W, env, A, S, h⟩
  refine tG_then S h fun ds W1 H1 env1 A1 vs S1 F1 r1 h1 => ?_
  simp only [rng3] at h1
  split at h1
  · split at h1
    · rename_i i j k c
      exact ⟨_, _, _, rngN i j k, r1.int3, ⟨c.1, c.2.1, c.2.2, PyProof.Rows.rangeSize_toNat i j k⟩, wk_of S1 h1 rfl wk_rngC⟩
    · exact h1.elim
  · exact h1.elim
end

/-! ### built-ins by values -/
theorem RepL.one {K : PySem.W.Frag} {w : World} {W : Hp} {d : D} {vs : List V} (h : RepL K w W [d] vs) : ∃ v, vs = [v] ∧ Rep K w W d v := by
  simp only [RepL] at h
  obtain ⟨v, r, rfl, h1, rfl⟩ := h
  exact ⟨v, rfl, h1⟩
theorem RepL.two {K : PySem.W.Frag} {w : World} {W : Hp} {d d' : D} {vs : List V} (h : RepL K w W [d, d'] vs) : ∃ v u, vs = [v, u] ∧ Rep K w W d v ∧ Rep K w W d' u := by
  simp only [RepL] at h
  obtain ⟨v, r, rfl, h1, u, r', rfl, h2, rfl⟩ := h
  exact ⟨v, u, rfl, h1, h2⟩
def absD : List D → Option D
  | [.int i] => some (.int (if i < 0 then -i else i))
  | _ => none
def intD : List D → Option D
  | [.int i] => some (.int i)
  | [.bool b] => some (.int (if b then 1 else 0))
  | _ => none
def max2D : List D → Option D
  | [.int i, .int j] => some (.int (if j > i then j else i))
  | _ => none
def min2D : List D → Option D
  | [.int i, .int j] => some (.int (if j < i then j else i))
  | _ => none
def listD : List D → Option D
  | [.list ds] => some (.list ds)
  | [.tuple ds] => some (.list ds)
  | _ => none
def tupleD : List D → Option D
  | [.list ds] => some (.tuple ds)
  | [.tuple ds] => some (.tuple ds)
  | _ => none
def boolsD : List D → Option (List Bool)
  | [] => some []
  | .bool b :: r => (boolsD r).map (b :: ·)
  | _ => none
def intsD : List D → Option (List Int)
  | [] => some []
  | .int b :: r => (intsD r).map (b :: ·)
  | _ => none
def allD : List D → Option D
  | [.list ds] => (boolsD ds).map fun bs => .bool (bs.all id)
  | _ => none
def anyD : List D → Option D
  | [.list ds] => (boolsD ds).map fun bs => .bool (bs.any id)
  | _ => none
def sumD : List D → Option D
  | [.list ds] => (intsD ds).map fun bs => .int bs.sum
  | _ => none
section
variable {X : Cx} {K : PySem.W.Frag} {w : World} {W : Hp}
theorem boolsD_rep : ∀ {ds : List D} {vs : List V} {bs : List Bool}, RepL K w W ds vs → boolsD ds = some bs → vs = bs.map V.bl
  | [], vs, bs, h, e => by
    simp only [RepL] at h
    cases e
    exact h
  | d :: ds, vs, bs, h, e => by
    simp only [RepL] at h
    obtain ⟨v, r, rfl, h1, h2⟩ := h
    cases d with
    | bool b =>
      unfold boolsD at e
      obtain ⟨cs, e1, rfl⟩ := Option.map_eq_some_iff.mp e
      rw [boolsD_rep h2 e1]
      simp only [Rep] at h1
      rw [h1]
      rfl
    | _ => cases e
theorem intsD_rep : ∀ {ds : List D} {vs : List V} {bs : List Int}, RepL K w W ds vs → intsD ds = some bs → vs = bs.map V.int
  | [], vs, bs, h, e => by
    simp only [RepL] at h
    cases e
    exact h
  | d :: ds, vs, bs, h, e => by
    simp only [RepL] at h
    obtain ⟨v, r, rfl, h1, h2⟩ := h
    cases d with
    | int b =>
      unfold intsD at e
      obtain ⟨cs, e1, rfl⟩ := Option.map_eq_some_iff.mp e
      rw [intsD_rep h2 e1]
      simp only [Rep] at h1
      rw [h1]
      rfl
    | _ => cases e
theorem cr_abs : CallR X (.builtin "abs") (tVn X.K X.w absD) := by
  refine CallR.wk call_abs ?_
  rintro vs H Q ⟨W, ds, s, r, h⟩
  unfold absD at h
  split at h
  · exact ⟨_, r.int1, h.flat s rfl⟩
  · exact h.elim
theorem cr_int : CallR X (.type "int") (tVn X.K X.w intD) := by
  refine CallR.wk call_int1 ?_
  rintro vs H Q ⟨W, ds, s, r, h⟩
  unfold intD at h
  split at h
  · exact .inl ⟨_, r.int1, h.flat s rfl⟩
  · obtain ⟨v, rfl, rv⟩ := r.one
    simp only [Rep] at rv
    subst rv
    exact .inr ⟨_, rfl, h.flat s rfl⟩
  · exact h.elim
theorem cr_max2 (hc : X.calm = true) : CallR X (.builtin "max") (tVn X.K X.w max2D) := by
  refine CallR.wk (call_max2 hc) ?_
  rintro vs H Q ⟨W, ds, s, r, h⟩
  unfold max2D at h
  split at h
  · exact ⟨_, _, r.int2, h.flat s rfl⟩
  · exact h.elim
theorem cr_min2 (hc : X.calm = true) : CallR X (.builtin "min") (tVn X.K X.w min2D) := by
  refine CallR.wk (call_min2 hc) ?_
  rintro vs H Q ⟨W, ds, s, r, h⟩
  unfold min2D at h
  split at h
  · exact ⟨_, _, r.int2, h.flat s rfl⟩
  · exact h.elim
theorem cr_list : CallR X (.type "list") (tWn X.K X.w listD) := by
  refine CallR.wk call_list_of ?_
  rintro vs H Q ⟨W, ds, s, r, h⟩
  unfold listD at h
  split at h
  · obtain ⟨v, rfl, rv⟩ := r.one
    simp only [Rep] at rv
    obtain ⟨a, us, rfl, q, l⟩ := rv
    exact ⟨a, us, rfl, .inl (.of (s _ _ q)), fun p n => h.lst s l n⟩
  · obtain ⟨v, rfl, rv⟩ := r.one
    simp only [Rep] at rv
    obtain ⟨a, us, rfl, q, l⟩ := rv
    exact ⟨a, us, rfl, .inr (Same.sqt s q), fun p n => h.lst s l n⟩
  · exact h.elim
theorem cr_tuple : CallR X (.type "tuple") (tVn X.K X.w tupleD) := by
  refine CallR.wk call_tuple_of ?_
  rintro vs H Q ⟨W, ds, s, r, h⟩
  unfold tupleD at h
  split at h
  · obtain ⟨v, rfl, rv⟩ := r.one
    simp only [Rep] at rv
    obtain ⟨a, us, rfl, q, l⟩ := rv
    exact ⟨a, us, rfl, .inl ⟨.of (s _ _ q), fun p n => h.tup s l n⟩⟩
  · obtain ⟨v, rfl, rv⟩ := r.one
    have rv' := rv
    simp only [Rep] at rv
    obtain ⟨a, us, rfl, q, l⟩ := rv
    exact ⟨a, us, rfl, .inr ⟨Same.sqt s q, h.flat s rv'⟩⟩
  · exact h.elim
theorem cr_allD (hc : X.calm = true) : CallR X (.builtin "all") (tVn X.K X.w allD) := by
  refine CallR.wk (cr_all hc) ?_
  rintro vs H Q ⟨W, ds, s, r, h⟩
  unfold allD at h
  split at h
  · rename_i xs
    obtain ⟨v, rfl, rv⟩ := r.one
    simp only [Rep] at rv
    obtain ⟨a, us, rfl, q, l⟩ := rv
    cases e : boolsD xs with
    | none => rw [e] at h; exact h.elim
    | some bs =>
      rw [e] at h
      have eu := boolsD_rep l e
      subst eu
      exact ⟨a, bs, rfl, .of (s _ _ q), h.flat s rfl⟩
  · exact h.elim
theorem cr_anyD (hc : X.calm = true) : CallR X (.builtin "any") (tVn X.K X.w anyD) := by
  refine CallR.wk (cr_any hc) ?_
  rintro vs H Q ⟨W, ds, s, r, h⟩
  unfold anyD at h
  split at h
  · rename_i xs
    obtain ⟨v, rfl, rv⟩ := r.one
    simp only [Rep] at rv
    obtain ⟨a, us, rfl, q, l⟩ := rv
    cases e : boolsD xs with
    | none => rw [e] at h; exact h.elim
    | some bs =>
      rw [e] at h
      have eu := boolsD_rep l e
      subst eu
      exact ⟨a, bs, rfl, .of (s _ _ q), h.flat s rfl⟩
  · exact h.elim
theorem cr_sumD (hc : X.calm = true) : CallR X (.builtin "sum") (tVn X.K X.w sumD) := by
  refine CallR.wk (cr_sum hc) ?_
  rintro vs H Q ⟨W, ds, s, r, h⟩
  unfold sumD at h
  split at h
  · rename_i xs
    obtain ⟨v, rfl, rv⟩ := r.one
    simp only [Rep] at rv
    obtain ⟨a, us, rfl, q, l⟩ := rv
    cases e : intsD xs with
    | none => rw [e] at h; exact h.elim
    | some bs =>
      rw [e] at h
      have eu := intsD_rep l e
      subst eu
      exact ⟨a, bs, rfl, .of (s _ _ q), h.flat s rfl⟩
  · exact h.elim

/-! ### sorted, by the data's own order -/
open PySem.W in
theorem each_reads {pins : List (Addr × Obj)} {σ : L2.St} {s : Shared} {H : Hp} (I : Inv X pins σ H s) (e : Same W H) : ∀ {ds : List D} {vs : List V} {us : List Value}, RepL X.K X.w W ds vs → Vals vs us →
    EachIs (fun u d => ∃ v, RelV v u ∧ Rep X.K X.w W d v) us ds ∧ EachIs (fun u d => ∃ as, Reads s.heap u (id d) as) us ds
  | [], _, _, h, r => by
    simp only [RepL] at h
    subst h
    cases r
    exact ⟨.nil, .nil⟩
  | d :: ds, _, _, h, r => by
    simp only [RepL] at h
    obtain ⟨v, q, rfl, h1, h2⟩ := h
    cases r with
    | cons r1 r2 =>
      obtain ⟨a, b⟩ := each_reads I e h2 r2
      exact ⟨.cons ⟨v, r1, h1⟩ a, .cons (Rep.reads I e d v _ h1 r1) b⟩
/-- data that sorted serves -/
def srtOk (ds : List D) : Bool := (ds.all fun x => ds.all fun y => PySem.W.alike x y) && ((ds.all fun x => match x with
    | .tuple (_ :: _) => true
    | _ => false) || ds.all fun x => match x with
    | .none => false
    | .tuple _ => false
    | _ => true) && ds.all fun x => decide (x.depth ≤ 60)
def dLe : D → D → Bool := PySem.W.dataLe false id
def sortL (ds : List D) : List D := ds.mergeSort dLe
def sortedD : List D → Option D
  | [.list ds] => if srtOk ds then some (.list (sortL ds)) else none
  | _ => none
theorem srtOk_alike {ds : List D} (h : srtOk ds = true) : PySem.W.AllAlike (ds.map id) := by
  intro x hx y hy
  rw [List.map_id] at hx hy
  simp only [srtOk, Bool.and_eq_true, List.all_eq_true] at h
  exact h.1.1 x hx y hy
theorem srtOk_sortable {ds : List D} (h : srtOk ds = true) : PySem.W.Sortable (ds.map id) := by
  simp only [srtOk, Bool.and_eq_true, Bool.or_eq_true, List.all_eq_true] at h
  rw [List.map_id]
  rcases h.1.2 with q | q
  · refine .inl fun d hd => ?_
    have := q d hd
    split at this
    · exact ⟨_, _, rfl⟩
    · cases this
  · refine .inr fun d hd => ?_
    have := q d hd
    split at this
    · cases this
    · cases this
    · rename_i a b
      exact ⟨fun e => a e, fun xs e => b xs e⟩
theorem srtOk_depth {ds : List D} (h : srtOk ds = true) : ∀ d ∈ ds, d.depth ≤ 60 := by
  simp only [srtOk, Bool.and_eq_true, List.all_eq_true, decide_eq_true_eq] at h
  exact h.2
section
variable {X : Cx}
theorem vals_of_each {P : Value → D → Prop} {W : Hp} : ∀ {us : List Value} {ds : List D}, PySem.W.EachIs (fun u d => ∃ v, RelV v u ∧ Rep X.K X.w W d v) us ds → ∃ vs, Vals vs us ∧ RepL X.K X.w W ds vs
  | _, _, .nil => ⟨[], .nil, RepL.nil⟩
  | _, _, .cons ⟨v, h1, h2⟩ t => by
    obtain ⟨vs, r, l⟩ := vals_of_each (P := P) t
    exact ⟨v :: vs, .cons h1 r, RepL.cons h2 l⟩
theorem cr_sortedD (hu : X.A.units + 64 < cLine) : CallR X (.builtin "sorted") (tWn X.K X.w sortedD) := by
  intro pins s σ H vs us Q I r h
  obtain ⟨W, ds, sm, rl, h⟩ := h
  unfold sortedD at h
  have fin : ∀ {xs : List D} {its ws : List Value} {zs : List V}, RepL X.K X.w W xs zs → Vals zs ws → srtOk xs = true → onW X.K X.w W H (some (.list (sortL xs))) Q → xs.length ≤ sizeLine →
      ∀ out : List Value, out.length = xs.length → PySem.W.EachIs (fun u d => ∃ v, RelV v u ∧ Rep X.K X.w W d v) out (xs.mergeSort (PySem.W.dataLe false id)) →
      EP X pins σ Q (.ref (s.heap.objs.size + 1)) { s with heap := sortedAll s.heap ws out.toArray } := by
    intro xs its ws zs rz rv ok hq hz out hl he
    obtain ⟨ys, ry, ly⟩ := vals_of_each (P := fun _ _ => True) he
    obtain ⟨ep, at'⟩ := PyProof.Rows.sortedAll_at s.heap ws out.toArray
    have nf : H (s.heap.objs.size + 1) = none := I.hok.fresh (Nat.le_succ _)
    refine ⟨.ref _, upd H (s.heap.objs.size + 1) (.lst ys), I.laid (t' := s.toks) (fun _ _ => PyProof.Rows.sortedAll_old) (Nat.le_succ _) ⟨?_, out, ep, ry, at'⟩, rfl, hq.lst sm ly nf⟩
    rw [ly.len]
    show (xs.mergeSort _).length ≤ _
    rw [List.length_mergeSort]
    exact hz
  split at h
  · rename_i xs
    split at h
    · rename_i ok
      obtain ⟨v, rfl, rv⟩ := rl.one
      simp only [Rep] at rv
      obtain ⟨a, zs, rfl, q, l⟩ := rv
      obtain ⟨ws, r1, pl, hz⟩ := I.list (.of (sm _ _ q))
      obtain ⟨u, rfl, ru⟩ := vals1 r
      cases ru
      obtain ⟨e1, e2⟩ := each_reads I sm l r1
      refine PySem.W.sorted_data (bs := xs) (enc := id) (R := fun u d => ∃ v, RelV v u ∧ Rep X.K X.w W d v) pl.isList e1 e2 (srtOk_alike ok) (srtOk_sortable ok) (by rw [← l.len]; exact hz) (fun b hb => ?_) fun out hl he => ?_
      · have := srtOk_depth ok b hb
        show X.A.units + 2 + b.depth < cLine
        omega
      · exact fin (its := ws) l r1 ok h (by rw [← l.len]; exact hz) out hl he
    · exact h.elim
  · exact h.elim
end
end
end DP
set_option Elab.async false
set_option linter.all false
set_option maxRecDepth 100000
/-! DP, part 10: slices. -/
namespace DP
open PySem PySem.Spec PyProof.Rows L2

abbrev PF := Ev → Out (Option Int × Ev)
abbrev tP (X : Cx) (Wx : WX) (f : PF) : TO := tG X.K X.w X.mg Wx (fun _ a b => b = a) f
abbrev EO (X : Cx) (Wx : WX) (e : Option Expr) (f : PF) : Prop := PO X e (tP X Wx f)
def pNo : PF := fun env => .ok (none, env)
def asI (r : D × Ev) : Out (Option Int × Ev) := match r.1 with
  | .int i => .ok (some i, r.2)
  | _ => .bad
def pAt (f : XF) : PF := fun env => (f env).bind asI
def cutL {α : Type} (xs : List α) (lo hi : Option Int) : List α := (xs.drop (HT.sIx xs.length 0 lo)).take (HT.sIx xs.length xs.length hi - HT.sIx xs.length 0 lo)
def slD : D → Option Int → Option Int → Option D
  | .list ds, l, h => some (.list (cutL ds l h))
  | .tuple ds, l, h => some (.tuple (cutL ds l h))
  | .str x, l, h => if x.length ≤ sizeLine then some (.str (cutS x l h)) else none
  | _, _, _ => none
def xSl (f : XF) (pl ph : PF) : XF := fun env => (f env).bind fun r => (pl r.2).bind fun l => (ph l.2).bind fun h => liftO (slD r.1 l.1 h.1) h.2
section
variable {X : Cx} {Wx : WX} {e : Expr} {f : XF} {lo hi : Option Expr} {pl ph : PF} {pos p2 : Pos} {K : PySem.W.Frag} {w : World} {W : Hp}
theorem RepL.cut {ds : List D} {vs : List V} (h : RepL K w W ds vs) (l u : Option Int) : RepL K w W (cutL ds l u) (cutV vs l u) := by
  unfold cutL cutV
  rw [h.len]
  exact (h.drop _).take _
theorem eo_none : EO X Wx none pNo := by
  refine ⟨fun pins s σ H Q I q => po_none.run pins s σ H Q I ?_⟩
  obtain ⟨ρ, W, env, A, S, h⟩ := q
  exact h W H A none S (Fr.refl _ _ _) rfl
theorem eo_some (h : EX X Wx e f) : EO X Wx (some e) (pAt f) := by
  refine ⟨fun pins s σ H Q I q => (po_some h).run pins s σ H Q I ?_⟩
  obtain ⟨ρ, W, env, A, S, h⟩ := q
  refine tG_then S h fun d W1 H1 env1 A1 v S1 F1 r1 h1 => ?_
  cases d with
  | int i =>
    simp only [Rep] at r1
    exact ⟨i, r1, h1 W1 H1 A1 _ S1 (Fr.refl _ _ _) rfl⟩
  | _ => exact h1.elim
theorem ex_slice (h : EX X Wx e f) (hl : EO X Wx lo pl) (hh : EO X Wx hi ph) : EX X Wx (.Subscript e (.Slice lo hi none p2) pos) (xSl f pl ph) := by
  refine PE.wk (pe_slice (SlR.or sl_list (SlR.or sl_tupA sl_str)) h hl hh) ?_
  rintro σ H Q ⟨ρ, W, env, A, S, h⟩
  refine tG_then S h fun d W1 H1 env1 A1 v S1 F1 r1 h1 => ?_
  refine tG_then S1 h1 fun l W2 H2 env2 A2 l' S2 F2 r2 h2 => ?_
  refine tG_then S2 h2 fun u W3 H3 env3 A3 u' S3 F3 r3 h3 => ?_
  subst r2 r3
  have h4 := onV_of S3 h3
  have r4 := Rep.mono (F2.ext.trans F3.ext) d v r1
  dsimp only at h4
  cases d with
  | list ds =>
    simp only [Rep] at r4
    obtain ⟨a, vs, rfl, q, r⟩ := r4
    exact .inl ⟨a, vs, rfl, .of (S3.sub _ _ q), fun p n => h4.lst S3.sub (r.cut _ _) n⟩
  | tuple ds =>
    have r5 := r4
    simp only [Rep] at r4
    obtain ⟨a, vs, rfl, q, r⟩ := r4
    refine .inr (.inl ⟨a, vs, rfl, Same.sqt S3.sub q, fun hw => h4.flat S3.sub ?_, fun hw p n => h4.tup S3.sub (r.cut _ _) n⟩)
    have e1 : cutL ds l' u' = ds := by
      unfold cutL
      rw [r.len] at hw
      rw [hw.1, hw.2, List.drop_zero, Nat.sub_zero, List.take_length]
    rw [e1]
    exact r5
  | str x =>
    simp only [Rep] at r4
    simp only [slD] at h4
    split at h4
    · rename_i c
      exact .inr (.inr ⟨x, r4, c, h4.flat S3.sub rfl⟩)
    · exact h4.elim
  | _ => exact h4.elim
/-- a slice of a list, one's own -/
def xSlN (f : XF) (pl ph : PF) : XF := fun env => (f env).bind fun r => (pl r.2).bind fun l => (ph l.2).bind fun h => liftO (match r.1 with
  | .list ds => some (.list (cutL ds l.1 h.1))
  | _ => none) h.2
theorem en_slice (h : EX X Wx e f) (hl : EO X Wx lo pl) (hh : EO X Wx hi ph) : EN X Wx (.Subscript e (.Slice lo hi none p2) pos) (xSlN f pl ph) := by
  refine PE.wk (pe_slice sl_list h hl hh) ?_
  rintro σ H Q ⟨ρ, W, env, A, S, h⟩
  refine tN_then S h fun d W1 H1 env1 A1 v S1 F1 r1 h1 => ?_
  refine tN_then S1 h1 fun l W2 H2 env2 A2 l' S2 F2 r2 h2 => ?_
  refine tN_then S2 h2 fun u W3 H3 env3 A3 u' S3 F3 r3 h3 => ?_
  subst r2 r3
  have h4 := onW_of S3 h3
  have r4 := Rep.mono (F2.ext.trans F3.ext) d v r1
  dsimp only at h4
  cases d with
  | list ds =>
    simp only [Rep] at r4
    obtain ⟨a, vs, rfl, q, r⟩ := r4
    exact ⟨a, vs, rfl, .of (S3.sub _ _ q), fun p n => h4.lst S3.sub (r.cut _ _) n⟩
  | _ => exact h4.elim
end
end DP
set_option Elab.async false
set_option linter.all false
set_option maxRecDepth 100000
/-! DP, part 11: dicts whose keys are any data that may be keys. -/
namespace DP
open PySem PySem.Spec PyProof.Rows L2
open Sem (wp)

/-- the entries es have the keys ks -/
structure Ents (w : World) (h : Heap) (ks : List NestedKey) (es : Array DictEntry) : Prop where
  len : ks.length = es.size
  ent : ∀ (i : Nat) e, es[i]? = some e → ∃ k, ks[i]? = some k ∧ NestedIs h k e.key ∧ k.depth ≤ 8 ∧ e.hash = k.hash w
  nd : ks.Nodup
section
variable {prog : Program} {w : World} {A : Around} {E : Value → Shared → Prop} {s : Shared} {a : Addr} {o : Obj} {es : Array DictEntry} {ep : Nat} {ks : List NestedKey} {k : NestedKey} {u : Value}
theorem Ents.get (N : Ents w s.heap ks es) {i : Nat} (h : ks[i]? = some k) : ∃ e, es[i]? = some e ∧ NestedIs s.heap k e.key ∧ k.depth ≤ 8 ∧ e.hash = k.hash w := by
  have hi : i < es.size := by rw [← N.len]; exact (List.getElem?_eq_some_iff.mp h).1
  obtain ⟨k', h1, h2, h3, h4⟩ := N.ent i es[i] (Array.getElem?_eq_getElem hi)
  rw [h] at h1
  cases h1
  exact ⟨_, Array.getElem?_eq_getElem hi, h2, h3, h4⟩
theorem Ents.one (N : Ents w s.heap ks es) {i j : Nat} (h : ks[i]? = some k) (h' : ks[j]? = some k) : i = j := by
  obtain ⟨hi, e⟩ := List.getElem?_eq_some_iff.mp h
  obtain ⟨hj, e'⟩ := List.getElem?_eq_some_iff.mp h'
  exact (List.getElem_inj N.nd).mp (e.trans e'.symm)
theorem eqBool_key {v : Value} {x y : NestedKey} {Q : Bool → Shared → Prop} (hu : A.units + 8 < cLine) (hx : NestedIs s.heap x u) (hy : NestedIs s.heap y v) (d : x.depth ≤ 8) (h : Q (decide (x = y)) s) : wpAny (model prog w) A (eqBool u v) Q E s :=
  eqAt_key x y A s u v hx hy (by omega) prog w E Q (by rw [← NestedKey.decide_eq]; exact h)
/-- the places of one hash -/
abbrev plcs (es : Array DictEntry) (h : Int) : List Nat := placesWithHash es.size (fun i => es[i]?.map (·.hash)) h
theorem mem_plcs {h : Int} {i : Nat} : i ∈ plcs es h ↔ ∃ e, es[i]? = some e ∧ e.hash = h := by
  unfold plcs placesWithHash
  rw [List.mem_filter, List.mem_range]
  constructor
  · rintro ⟨h1, h2⟩
    dsimp only at h2
    rw [Array.getElem?_eq_getElem h1] at h2
    exact ⟨_, Array.getElem?_eq_getElem h1, by simpa using h2⟩
  · rintro ⟨e, h1, h2⟩
    refine ⟨(Array.getElem?_eq_some_iff.mp h1).1, ?_⟩
    dsimp only
    rw [h1, ← h2]
    simp
theorem nodup_plcs {h : Int} : (plcs es h).Nodup := List.nodup_range.filter _
/-- what a search has to give -/
def Hit (ks : List NestedKey) (k : NestedKey) (r : Option Nat) : Prop := match r with
  | none => k ∉ ks
  | some j => ks[j]? = some k
theorem walkPlain (N : Ents w s.heap ks es) (hu : A.units + 8 < cLine) (ho : s.heap.get? a = some o) (hd : o.data = .dict es ep) (hk : NestedIs s.heap k u) {Q : Option Nat → Shared → Prop} (h : ∀ r, Hit ks k r → Q r s) :
    wpAny (model prog w) A (dictWalkPlain a u (k.hash w) es (plcs es (k.hash w))) Q E s := by
  unfold dictWalkPlain
  refine wpAny_bind ?_
  refine wpAny_forIn_list _ (fun rest b s' => s' = s ∧ b = (none, PUnit.unit) ∧ (∀ i ∈ rest, i ∈ plcs es (k.hash w)) ∧ ∀ i, ks[i]? = some k → i ∈ rest) _ ?_ ?_ _ _ ⟨rfl, rfl, fun _ h => h, fun i hi => ?_⟩
  · rintro i rest b s' ⟨rfl, rfl, h1, h2⟩
    obtain ⟨e, e1, e2⟩ := mem_plcs.mp (h1 i List.mem_cons_self)
    obtain ⟨k', f1, f2, f3, f4⟩ := N.ent i e e1
    rw [e1]
    dsimp only
    rw [if_pos (by simp [e2])]
    refine wpAny_bind (wpAny_dictEpoch ho hd (wpAny_bind (eqBool_key hu f2 hk f3 (wpAny_bind (wpAny_dictEpoch ho hd ?_)))))
    rw [if_neg (by simp)]
    by_cases hkk : k' = k
    · subst hkk
      rw [decide_eq_true rfl, if_pos rfl]
      exact wpAny_bind (wpAny_rule (wpAny_pure (wpAny_pure (h (some i) f1))))
    · rw [decide_eq_false hkk, if_neg Bool.false_ne_true]
      refine wpAny_bind (wpAny_rule (wpAny_pure ⟨rfl, rfl, fun j hj => h1 j (List.mem_cons_of_mem _ hj), fun j hj => ?_⟩))
      rcases List.mem_cons.mp (h2 j hj) with q | q
      · subst q
        rw [f1] at hj
        cases hj
        exact absurd rfl hkk
      · exact q
  · rintro b s' ⟨rfl, rfl, _, h2⟩
    refine wpAny_pure (h none fun hm => ?_)
    obtain ⟨j, hj⟩ := List.getElem?_of_mem hm
    exact absurd (h2 j hj) (by simp)
  · obtain ⟨e, e1, e2, e3, e4⟩ := N.get hi
    exact mem_plcs.mpr ⟨e, e1, e4⟩
theorem quiet_at {Q : Bool → Shared → Prop} (hk : NestedIs s.heap k u) (d : k.depth ≤ 8) (h : Q true s) : wpAny (model prog w) A (eqIsQuiet 8 u) Q E s := quiet_key k u 8 s hk d A E Q h
theorem tellsNot (hk : NestedIs s.heap k u) (d : k.depth ≤ 8) {stored : List Value} (hs : ∀ v ∈ stored, ∃ k', NestedIs s.heap k' v ∧ k'.depth ≤ 8) {Q : Bool → Shared → Prop} (h : Q false s) :
    wpAny (model prog w) A (tableMayTell u stored) Q E s := by
  unfold tableMayTell
  split
  · exact wpAny_pure h
  · refine wpAny_bind (quiet_at hk d ?_)
    rw [if_neg (by decide)]
    refine wpAny_bind ?_
    refine wpAny_forIn_list _ (fun rest r s' => s' = s ∧ r = (none, PUnit.unit) ∧ ∀ v ∈ rest, ∃ k', NestedIs s.heap k' v ∧ k'.depth ≤ 8) _ ?_ ?_ _ _ ⟨rfl, rfl, hs⟩
    · rintro x rest r s' ⟨rfl, rfl, hr⟩
      obtain ⟨k', h1, h2⟩ := hr x List.mem_cons_self
      refine wpAny_bind (quiet_at h1 h2 ?_)
      rw [if_neg (by decide)]
      exact wpAny_pure ⟨rfl, rfl, fun v hv => hr v (List.mem_cons_of_mem _ hv)⟩
    · rintro r s' ⟨rfl, rfl, _⟩
      exact wpAny_pure h
theorem wp_if {α : Type} {M : Model} {c : Prop} [Decidable c] {t e : Sem α} {Q : α → Shared → Prop} (h1 : c → wpAny M A t Q E s) (h2 : ¬ c → wpAny M A e Q E s) : wpAny M A (if c then t else e) Q E s := by
  by_cases h : c
  · rw [if_pos h]; exact h1 h
  · rw [if_neg h]; exact h2 h
theorem text_of {x : Str} {t : Tok} (h : NestedIs s.heap k (.str x t)) : k = .text x := by cases h; rfl
/-- THE SEARCH: whatever the keys are -/
theorem dictFind_any (N : Ents w s.heap ks es) (hu : A.units + 8 < cLine) (ho : s.heap.get? a = some o) (hd : o.data = .dict es ep) (hk : NestedIs s.heap k u) (dk : k.depth ≤ 8) {Q : Option Nat → Shared → Prop} (h : ∀ r, Hit ks k r → Q r s) :
    wpAny (model prog w) A (dictFind a u (k.hash w)) Q E s := by
  -- by value
  have byV : ∀ (x : Str) (t : Tok), u = .str x t → wpAny (model prog w) A (foundByValue a u es x) Q E s := by
    rintro x t rfl
    have ek := text_of hk
    subst ek
    unfold foundByValue
    cases ef : es.findIdx? (·.key.isStr x) with
    | none =>
      refine wpAny_pure (h none fun hm => ?_)
      obtain ⟨j, hj⟩ := List.getElem?_of_mem hm
      obtain ⟨e, e1, e2, _⟩ := N.get hj
      have hin : e ∈ es := Array.mem_of_getElem? e1
      have q := Array.findIdx?_eq_none_iff.mp ef e hin
      generalize e.key = kv at e2 q
      cases e2
      simp [Value.isStr] at q
    | some i =>
      have hi := Array.findIdx?_eq_some_iff_getElem.mp ef
      obtain ⟨hlt, hx, _⟩ := hi
      have e1 : es[i]? = some es[i] := Array.getElem?_eq_getElem hlt
      obtain ⟨k', f1, f2, f3, f4⟩ := N.ent i _ e1
      have ek : k' = .text x := by
        generalize es[i].key = kv at f2 hx
        cases kv with
        | str y t' =>
          have := text_of f2
          simp [Value.isStr] at hx
          rw [this, hx]
        | _ => simp [Value.isStr] at hx
      subst ek
      dsimp only
      rw [e1]
      dsimp only
      refine wpAny_bind (wpAny_dictEpoch ho hd (wpAny_bind (eqBool_key hu f2 hk f3 (wpAny_bind (wpAny_dictEpoch ho hd ?_)))))
      rw [if_neg (by simp), decide_eq_true rfl, if_pos rfl]
      exact wpAny_bind (wpAny_rule (wpAny_pure (h (some i) f1)))
  have stAll : ∀ v ∈ (plcs es (k.hash w)).filterMap (fun i => es[i]?.map (·.key)), ∃ k', NestedIs s.heap k' v ∧ k'.depth ≤ 8 := by
    intro v hv
    obtain ⟨i, _, hi⟩ := List.mem_filterMap.mp hv
    cases e : es[i]? with
    | none => rw [e] at hi; cases hi
    | some en =>
      rw [e] at hi
      cases hi
      obtain ⟨k', _, f2, f3, _⟩ := N.ent i en e
      exact ⟨k', f2, f3⟩
  have hin : ∀ i, ks[i]? = some k → i ∈ plcs es (k.hash w) := fun i hi => by
    obtain ⟨e, e1, e2, e3, e4⟩ := N.get hi
    exact mem_plcs.mpr ⟨e, e1, e4⟩
  have noAny : ¬ (es.any fun e => e.key == u && e.hash != k.hash w) = true := by
    intro hc
    obtain ⟨i, hi, hx⟩ := Array.any_eq_true.mp hc
    obtain ⟨k', f1, f2, f3, f4⟩ := N.ent i _ (Array.getElem?_eq_getElem hi)
    simp only [Bool.and_eq_true, beq_iff_eq, bne_iff_ne, ne_eq] at hx
    rw [hx.1] at f2
    have := NestedIs.inj _ _ _ f2 hk
    subst this
    exact hx.2 f4
  unfold dictFind
  try with_reducible refine wpAny_holding ?_
  refine wpAny_bind (wpAny_dictEntries ho hd ?_)
  have hk0 := hk
  obtain ⟨isK, hisK⟩ : ∃ isK : Nat → Prop, ∀ i, isK i ↔ ks[i]? = some k := ⟨fun i => ks[i]? = some k, fun _ => Iff.rfl⟩
  obtain ⟨isP, hisP⟩ : ∃ isP : Nat → Prop, ∀ i, isP i ↔ i ∈ plcs es (k.hash w) := ⟨fun i => i ∈ plcs es (k.hash w), fun _ => Iff.rfl⟩
  have nd0 : (plcs es (k.hash w)).Nodup := nodup_plcs
  cases hk
  all_goals dsimp only
  case' text x t => refine wp_if (fun _ => byV x t rfl) fun _ => ?_
  case' text => refine wp_if (fun _ => walkPlain N hu ho hd hk0 h) fun _ => ?_
  case' tup b ob vs m ks' g1 g2 g3 g4 => rw [if_neg (by simp [carriedByValue]), if_neg noAny]
  case' none => refine wp_if (fun _ => walkPlain N hu ho hd hk0 h) fun _ => ?_
  case' bool b i hb => refine wp_if (fun _ => walkPlain N hu ho hd hk0 h) fun _ => ?_
  case' int i t => refine wp_if (fun _ => walkPlain N hu ho hd hk0 h) fun _ => ?_
  all_goals
    (refine wp_if (fun _ => wpAny_bind (wpAny_pure ?_)) fun _ => wpAny_bind (tellsNot hk0 dk stAll ?_)) <;>
    (rw [if_neg (by simp)]
     refine wpAny_bind ?_
     refine wpAny_forIn_list _ (fun rest b s' => s' = s ∧ ∃ hit, b = (none, hit) ∧ (∀ i ∈ rest, isP i) ∧ rest.Nodup ∧ ((hit = none ∧ ∀ i, isK i → i ∈ rest) ∨ ∃ j, hit = some j ∧ isK j ∧ j ∉ rest)) _ ?_ ?_ _ _ ⟨rfl, none, rfl, fun i h => (hisP i).mpr h, nd0, .inl ⟨rfl, fun i hi => hin i ((hisK i).mp hi)⟩⟩
     · rintro i rest b s' ⟨rfl, hit, rfl, h1, h2, h3⟩
       obtain ⟨e, e1, e2⟩ := mem_plcs.mp ((hisP i).mp (h1 i List.mem_cons_self))
       obtain ⟨k', f1, f2, f3, f4⟩ := N.ent i e e1
       obtain ⟨m1, m2⟩ := List.nodup_cons.mp h2
       rw [e1]
       dsimp only
       rw [if_pos (by simp [e2])]
       refine wpAny_bind (wpAny_dictEpoch ho hd (wpAny_bind (eqBool_key hu f2 hk0 f3 (wpAny_bind (wpAny_dictEpoch ho hd ?_)))))
       rw [if_neg (by simp)]
       refine wp_if (fun hc => ?_) fun hc => ?_
       · have hkk := of_decide_eq_true hc
         subst hkk
         rcases h3 with ⟨rfl, h3⟩ | ⟨j, rfl, h4, h5⟩
         · rw [if_neg (by simp)]
           refine wpAny_bind (wpAny_rule ?_)
           refine wp_if (fun _ => wpAny_pure (wpAny_pure (h (some i) f1))) fun _ => wpAny_pure ⟨rfl, some i, rfl, fun j hj => h1 j (List.mem_cons_of_mem _ hj), m2, .inr ⟨i, rfl, (hisK i).mpr f1, m1⟩⟩
         · exact absurd (by rw [N.one ((hisK j).mp h4) f1]; exact List.mem_cons_self) h5
       · have hkk : ¬ k' = _ := fun q => hc (decide_eq_true q)
         refine wpAny_bind (wpAny_rule ?_)
         rw [if_neg (by simp)]
         refine wpAny_pure ⟨rfl, hit, rfl, fun j hj => h1 j (List.mem_cons_of_mem _ hj), m2, ?_⟩
         rcases h3 with ⟨rfl, h3⟩ | ⟨j, rfl, h4, h5⟩
         · refine .inl ⟨rfl, fun j hj => (List.mem_cons.mp (h3 j hj)).resolve_left fun q => ?_⟩
           subst q
           have hj' := (hisK j).mp hj
           rw [f1] at hj'
           exact hkk (Option.some.inj hj')
         · exact .inr ⟨j, rfl, h4, fun q => h5 (List.mem_cons_of_mem _ q)⟩
     · rintro b s' ⟨rfl, hit, rfl, _, _, h3⟩
       rcases h3 with ⟨rfl, h3⟩ | ⟨j, rfl, h4, _⟩
       · refine wpAny_pure (h none fun hm => ?_)
         obtain ⟨j, hj⟩ := List.getElem?_of_mem hm
         exact absurd (h3 j ((hisK j).mpr hj)) (by simp)
       · exact wpAny_pure (h (some j) ((hisK j).mp h4)))
abbrev dobj (es : Array DictEntry) (ep : Nat) : Obj := { cls := .type "dict", data := .dict es ep }
theorem dictGet_any (N : Ents w s.heap ks es) (hu : A.units + 8 < cLine) (ho : s.heap.get? a = some (dobj es ep)) (hk : NestedIs s.heap k u) (dk : k.depth ≤ 8) {Q : Option Value → Shared → Prop}
    (h : ∀ r, Hit ks k r → Q (r.bind fun j => es[j]?.map (·.val)) { s with toks := s.toks + k.draws }) : wpAny (model prog w) A (dictGet a u) Q E s := by
  unfold dictGet
  try with_reducible refine wpAny_holding ?_
  refine wpAny_bind (pyHash_key k u A s _ hk (by omega) ?_)
  have N' : Ents w ({ s with toks := s.toks + k.draws } : Shared).heap ks es := N
  refine wpAny_bind (dictFind_any (s := { s with toks := s.toks + k.draws }) N' hu ho rfl hk dk fun r hr => ?_)
  cases r with
  | none => exact wpAny_pure (h none hr)
  | some j =>
    refine wpAny_bind (wpAny_dictEntries (s := { s with toks := s.toks + k.draws }) ho rfl ?_)
    exact wpAny_pure (h (some j) hr)
theorem dobj_type (ho : s.heap.get? a = some (dobj es ep)) : s.TypeIs (.ref a) "dict" := ⟨_, ho, rfl⟩
/-- y in d -/
theorem dcontains (N : Ents w s.heap ks es) (hu : A.units + 9 < cLine) (hs : (a == sysModules) = false) (ho : s.heap.get? a = some (dobj es ep)) (hk : NestedIs s.heap k u) (dk : k.depth ≤ 8) {Q : Bool → Shared → Prop}
    (h : ∀ t, Q (decide (k ∈ ks)) { s with toks := t }) : wpAny (model prog w) A (contains (.ref a) u) Q E s := by
  have T := dobj_type ho
  refine wpAny_contains_slot T F.slot_dict_contains ?_
  refine call_meetsIn F.slot_dict_contains T F.entry_dict_contains (F.args_dict_contains_2 _ _) (S := fun A' R s' => A' = A ∧ s' = s ∧ ∀ t, R (.ok (.ret (.bool (decide (k ∈ ks))))) { s with toks := t }) (fun A' R s' hS => ?_) ⟨rfl, rfl, fun t => wpAny_truthy_bool (h t)⟩
  obtain ⟨rfl, rfl, hq⟩ := hS
  show wpAny _ _ (dictGet a u >>= _) _ _ _
  refine wpAny_bind (dictGet_any N (by simp only [Around.in1_units]; omega) ho hk dk fun r hr => ?_)
  cases r with
  | none =>
    rw [decide_eq_false hr] at hq
    show wpAny _ _ (Builtin.Dict.pendingKey? a u >>= _) _ _ _
    exact wpAny_bind (wpAny_pendingKey_other hs (wpAny_pure (hq _)))
  | some j =>
    rw [decide_eq_true (List.mem_of_getElem? hr)] at hq
    obtain ⟨e, e1, _⟩ := N.get hr
    simp only [Option.bind_some, e1, Option.map_some]
    show wpAny _ _ (ret (.bool true)) _ _ _
    exact wpAny_pure (hq _)
/-- d[k], where it is there -/
theorem dgetItem {j : Nat} {e : DictEntry} (N : Ents w s.heap ks es) (hu : A.units + 9 < cLine) (ho : s.heap.get? a = some (dobj es ep)) (hk : NestedIs s.heap k u) (dk : k.depth ≤ 8) (hj : ks[j]? = some k) (he : es[j]? = some e) {Q : Value → Shared → Prop}
    (h : ∀ t, Q e.val { s with toks := t }) : wpAny (model prog w) A (getItem (.ref a) u) Q E s := by
  have T := dobj_type ho
  refine wpAny_getItem_slot T rfl F.slot_dict_getitem ?_
  refine call_meetsIn F.slot_dict_getitem T F.entry_dict_getitem (F.args_dict_getitem_2 _ _) (S := fun A' R s' => A' = A ∧ s' = s ∧ ∀ t, R (.ok (.ret e.val)) { s with toks := t }) (fun A' R s' hS => ?_) ⟨rfl, rfl, h⟩
  obtain ⟨rfl, rfl, hq⟩ := hS
  show wpAny _ _ (dictGet a u >>= _) _ _ _
  refine wpAny_bind (dictGet_any N (by simp only [Around.in1_units]; omega) ho hk dk fun r hr => ?_)
  cases r with
  | none => exact absurd (List.mem_of_getElem? hj) hr
  | some i =>
    have := N.one hr hj
    subst this
    simp only [Option.bind_some, he, Option.map_some]
    exact wpAny_pure (hq _)
/-- d.get(k), d.get(k, x) -/
theorem dget1 (N : Ents w s.heap ks es) (hu : A.units + 9 < cLine) (hs : (a == sysModules) = false) (ho : s.heap.get? a = some (dobj es ep)) (hk : NestedIs s.heap k u) (dk : k.depth ≤ 8) {Q : Value → Shared → Prop}
    (h : ∀ r t, Hit ks k r → Q ((r.bind fun j => es[j]?.map (·.val)).getD .none) { s with toks := t }) : wpAny (model prog w) A (call (.builtin "dict.get") [.ref a, u]) Q E s := by
  have T := dobj_type ho
  refine call_meetsIn F.slot_dict_get T F.entry_dict_get (F.args_dict_get_2 _ _) (S := fun A' R s' => A' = A ∧ s' = s ∧ ∀ r t, Hit ks k r → R (.ok (.ret ((r.bind fun j => es[j]?.map (·.val)).getD .none))) { s with toks := t }) (fun A' R s' hS => ?_) ⟨rfl, rfl, h⟩
  obtain ⟨rfl, rfl, hq⟩ := hS
  show wpAny _ _ (dictGet a u >>= _) _ _ _
  refine wpAny_bind (dictGet_any N (by simp only [Around.in1_units]; omega) ho hk dk fun r hr => ?_)
  have hq' := fun t => hq r t hr
  cases hr' : (r.bind fun j => es[j]?.map (·.val)) with
  | none =>
    rw [hr'] at hq'
    show wpAny _ _ (Builtin.Dict.missed a u >>= _) _ _ _
    unfold Builtin.Dict.missed
    rw [if_neg (by rw [hs]; exact Bool.false_ne_true)]
    exact wpAny_bind (wpAny_pure (wpAny_pure (hq' _)))
  | some v =>
    rw [hr'] at hq'
    exact wpAny_pure (hq' _)
theorem dget2 {x : Value} (N : Ents w s.heap ks es) (hu : A.units + 9 < cLine) (hs : (a == sysModules) = false) (ho : s.heap.get? a = some (dobj es ep)) (hk : NestedIs s.heap k u) (dk : k.depth ≤ 8) {Q : Value → Shared → Prop}
    (h : ∀ r t, Hit ks k r → Q ((r.bind fun j => es[j]?.map (·.val)).getD x) { s with toks := t }) : wpAny (model prog w) A (call (.builtin "dict.get") [.ref a, u, x]) Q E s := by
  have T := dobj_type ho
  refine call_meetsIn F.slot_dict_get T F.entry_dict_get (F.args_dict_get_3 _ _ _) (S := fun A' R s' => A' = A ∧ s' = s ∧ ∀ r t, Hit ks k r → R (.ok (.ret ((r.bind fun j => es[j]?.map (·.val)).getD x))) { s with toks := t }) (fun A' R s' hS => ?_) ⟨rfl, rfl, h⟩
  obtain ⟨rfl, rfl, hq⟩ := hS
  show wpAny _ _ (dictGet a u >>= _) _ _ _
  refine wpAny_bind (dictGet_any N (by simp only [Around.in1_units]; omega) ho hk dk fun r hr => ?_)
  have hq' := fun t => hq r t hr
  cases hr' : (r.bind fun j => es[j]?.map (·.val)) with
  | none =>
    rw [hr'] at hq'
    show wpAny _ _ (Builtin.Dict.missed a u >>= _) _ _ _
    unfold Builtin.Dict.missed
    rw [if_neg (by rw [hs]; exact Bool.false_ne_true)]
    exact wpAny_bind (wpAny_pure (wpAny_pure (hq' _)))
  | some v =>
    rw [hr'] at hq'
    exact wpAny_pure (hq' _)
end
end DP
set_option Elab.async false
set_option linter.all false
set_option maxRecDepth 100000
/-! DP, part 12: dicts that change. -/
namespace DP
open PySem PySem.Spec PyProof.Rows L2
open Sem (wp)
/-- the entries behind d[k] = v -/
def putE (es : List DictEntry) (r : Option Nat) (h : Int) (u v : Value) : List DictEntry := match r with
  | none => es ++ [⟨h, u, v⟩]
  | some j => es.modify j fun e => { e with val := v }
section
variable {prog : Program} {w : World} {A : Around} {E : Value → Shared → Prop} {s : Shared} {a : Addr} {o : Obj} {es : Array DictEntry} {ep : Nat} {ks : List NestedKey} {k : NestedKey} {u v : Value}
theorem dSetHashed (N : Ents w s.heap ks es) (hu : A.units + 8 < cLine) (ho : s.heap.get? a = some (dobj es ep)) (hz : es.size ≤ sizeLine) (hk : NestedIs s.heap k u) (dk : k.depth ≤ 8) {Q : Unit → Shared → Prop}
    (h : ∀ h' es' ep' r, Hit ks k r → h'.get? a = some (dobj es' ep') → Heap.SameBut a s.heap h' → es'.toList = putE es.toList r (k.hash w) u v → Q () { s with heap := h' }) :
    wpAny (model prog w) A (dictSetHashed a u (k.hash w) v) Q E s := by
  unfold dictSetHashed
  try with_reducible refine wpAny_holding ?_
  refine wpAny_bind (dictFind_any N hu ho rfl hk dk fun r hr => ?_)
  cases r with
  | none =>
    refine wpAny_bind (wpAny_rule (wpAny_updateDictKeys (hz := hz) ho rfl (h _ _ (ep + 1) none hr (Heap.get?_update_self _ ho rfl) (Heap.SameBut.update ..) ?_)))
    simp [putE]
  | some j =>
    refine wpAny_bind (wpAny_rule (wpAny_bind (wpAny_updateDict ho rfl (wpAny_point (h _ _ ep (some j) hr (Heap.get?_update_self _ ho rfl) (Heap.SameBut.update ..) ?_)))))
    obtain ⟨l⟩ := es
    simp [putE]
/-- d[k] = v -/
theorem dset (N : Ents w s.heap ks es) (hu : A.units + 9 < cLine) (ho : s.heap.get? a = some (dobj es ep)) (hz : es.size ≤ sizeLine) (hk : NestedIs s.heap k u) (dk : k.depth ≤ 8) {Q : Unit → Shared → Prop}
    (h : ∀ h' es' ep' r t, Hit ks k r → h'.get? a = some (dobj es' ep') → Heap.SameBut a s.heap h' → es'.toList = putE es.toList r (k.hash w) u v → Q () { s with heap := h', toks := t }) :
    wpAny (model prog w) A (setItem (.ref a) u v) Q E s := by
  have T := dobj_type ho
  unfold setItem
  try with_reducible refine wpAny_holding ?_
  refine wpAny_bind (wpAny_sequenceKey T (by decide) ?_)
  refine wpAny_bind (wpAny_callSpecial?_slot (name := Str.ofString "__setitem__") T F.slot_dict_setitem
    (wpAny_call_entry F.slot_dict_setitem T F.entry_dict_setitem ?_ (F.args_dict_setitem_3 _ _ _)))
  show wpAny _ _ (Builtin.Dict.notOrdered "__setitem__" ⟨[.ref a, u, v], []⟩ >>= _) _ _ s
  refine wpAny_bind (wpAny_notOrdered_dict T ?_)
  show wpAny _ _ (dictSet a u v >>= _) _ _ s
  refine wpAny_bind ?_
  unfold dictSet
  try with_reducible refine wpAny_holding ?_
  have hu1 : A.in1.units + 8 < cLine := by simp only [Around.in1_units]; omega
  refine wpAny_bind (pyHash_key k u _ s _ hk (by omega) ?_)
  exact dSetHashed (s := { s with toks := s.toks + k.draws }) N hu1 ho hz hk dk fun h' es' ep' r hr e1 e2 e3 => wpAny_pure ⟨.none, rfl, wpAny_pure (h h' es' ep' r _ hr e1 e2 e3)⟩
end
end DP
set_option Elab.async false
set_option linter.all false
set_option maxRecDepth 100000
/-! DP, part 13: calls where nothing is being shown (for repr): FnG; the law's own call. -/
namespace DP
open PySem PySem.Spec PyProof.Rows L2

/-- what a def keeps, called where no repr is under way -/
structure FnG (P : Program) (w : World) (K : PySem.W.Frag) (mg : Str → Option Value) (base : Heap) (k : Nat) (f : Addr) (fd : FuncData) (ps : List Str) (sp : Sp) : Prop where
  len : ∀ vs H Q E, sp vs H Q E → vs.length = ps.length
  go : ∀ (A : Around) (outer : List Env) (s : Shared) (H : Hp) (args : Args) (us : List Value) (vs : List V) (Q : VK) (E : XK), Room k A → A.guards = some [] → Env0 P w K mg base A outer s H →
    BindsTo s fd args (ps.zip us) → Vals vs us → sp vs H Q E → codeAny (model P w) A (.call (.ref f) args) (CR (L2.CX P w) outer P w H s Q E) s
section
variable {P : Program} {w : World} {K : PySem.W.Frag} {mg : Str → Option Value} {base : Heap} {k : Nat} {f : Addr} {fd : FuncData} {ps N : List Str} {sp : Sp}
theorem FnG.up {j : Nat} (F : FnG P w K mg base j f fd ps sp) (h : j ≤ k) : FnG P w K mg base k f fd ps sp :=
  ⟨F.len, fun A outer s H args us vs Q E hr => F.go A outer s H args us vs Q E (hr.mono h)⟩
/-- a def of the text, by its body -/
theorem fnG_of {x qual : Str} {st : Stmt} (Fn : Fun K x qual st f fd) (S : FnScope N ps (defScope st)) (len : ∀ vs H Q E, sp vs H Q E → vs.length = ps.length)
    (body : ∀ (cdv : Value) (A : Around) (outer : List Env) (s : Shared) (H : Hp) (vs : List V) (Q : VK) (E : XK), Room k (A.deeper (envOfC qual (defScope st) s.heap.objs.size f cdv)) → A.guards = some [] → sp vs H Q E →
      ∃ t, PSs (cxOf (L2.CX P w) P w K mg base N qual (defScope st) f cdv A outer s H E) (defBody st) t ∧ t { nx := fun _ H1 => Q .non H1, rt := Q } (L2.start N vs) H) : FnG P w K mg base (k + 1) f fd ps sp := by
  obtain ⟨oc, od, kV, doc, pm, an, cdv, ct, osl, rfl, lk, hcd⟩ := Fn.ex
  refine ⟨len, ?_⟩
  intro A outer s H args us vs Q E room quiet e0 binds rel hsp
  have kin : K.In s.heap := e0.mod.kin.keeps fun b o z => (e0.bs b o z).1
  have cells : ∀ y ∈ ps.zip us, (defScope st).names.lookup y.1 = some .local ∨ ((defScope st).names.lookup y.1 = some .cell ∧ ((cellsFrom (s.heap.objs.size + 1) (defScope st).names []).lookup y.1).isSome = true) := by
    rintro ⟨nm, u⟩ hy
    refine (S.par nm (List.of_mem_zip hy).1).imp id fun z => ⟨z, PySem.W.cellsFrom_some _ _ _ (.inl z)⟩
  refine codeAny_call_function room.depth (kin _ _ lk) rfl S.co S.gen rfl (PySem.W.codeRec_of kin hcd) (binds _ _ _ _ ?_)
  refine wpAny_newFunctionEnv_cells S.kind cells fun env he s1 x => ?_
  subst he
  refine ⟨(e0.mod.nolimit.keeps fun b o z => (e0.bs b o z).1).keeps x.toInCall.keep, codeAny_func ?_⟩
  obtain ⟨t, ht, hq⟩ := body cdv A outer s H vs Q E (room.deeper _) quiet hsp
  have I : Inv (cxOf (L2.CX P w) P w K mg base N qual (defScope st) f cdv A outer s H E) [] (L2.start N vs) H s1 := inv_start S room.hd e0 (len _ _ _ _ hsp) rel x
  refine wpAny_mono (ht.run [] s1 (L2.start N vs) H _ I hq) ?_ fun _ _ z => z
  intro fl s' hs
  cases fl with
  | next => obtain ⟨σ1, H1, J, q⟩ := hs; exact (⟨V.non, H1, J.os, J.bare, J.base, J.hok, rfl, q⟩ : CE outer P w H s Q Value.none s')
  | ret u => obtain ⟨v, σ1, H1, J, rv, q⟩ := hs; exact (⟨v, H1, J.os, J.bare, J.base, J.hok, rv, q⟩ : CE outer P w H s Q u s')
  | brk => obtain ⟨_, _, _, q⟩ := hs; exact q.elim
  | cont => obtain ⟨_, _, _, q⟩ := hs; exact q.elim
/-- A DEF that reckons F -/
theorem fnG_pure {x qual : Str} {st : Stmt} {F : FD} {B : SF} (Fn : Fun K x qual st f fd) (S : FnScope N ps (defScope st)) (hF : ∀ ds, ds.length = ps.length → F ds = runB N.length B ds)
    (body : ∀ (cdv : Value) (A : Around) (outer : List Env) (s : Shared) (H : Hp) (E : XK), Room k (A.deeper (envOfC qual (defScope st) s.heap.objs.size f cdv)) → A.guards = some [] →
      EB (cxOf (L2.CX P w) P w K mg base N qual (defScope st) f cdv A outer s H E) (fun cls d _ H => E cls d H) (defBody st) B) : FnG P w K mg base (k + 1) f fd ps (spF K w mg ps.length F) := by
  refine fnG_of Fn S (fun vs H Q E h => ?_) fun cdv A outer s H vs Q E hr hg h => ⟨_, body cdv A outer s H E hr hg, ?_⟩
  · obtain ⟨W, ds, _, r, hl, _⟩ := h
    exact r.len.trans hl
  · obtain ⟨W, ds, sm, r, hl, h⟩ := h
    refine ⟨fun _ => 0, W, _, _, SR.start sm r, ?_⟩
    rw [hF ds hl] at h
    unfold runB at h
    have ex : ∀ {W' H' : Hp} {A' : List (List Addr)}, Same W' H' → Fr W H (ownd (List.replicate (L2.start N vs).length [])) W' H' (ownd A') → Ex W H W' H' := fun s F => F.ex own_none s
    cases eb : B (ds.map .fz ++ List.replicate (N.length - ds.length) .no) with
    | bad => rw [eb] at h; exact h.elim
    | exc c d e =>
      rw [eb] at h
      exact fun C W' H' A' σ' dx v g S' F' x r' => h C W' H' dx v g (ex S'.sub F') x r'
    | ok q =>
      obtain ⟨fl, env'⟩ := q
      rw [eb] at h
      cases fl with
      | nx => exact fun W' H' A' σ' S' F' => h W' H' _ (ex S'.sub F') rfl
      | rt d => exact fun W' H' A' σ' S' F' v rv => h W' H' v (ex S'.sub F') rv
      | bk => exact h.elim
      | ct => exact h.elim
end
section
variable {X : Cx} {Wx : WX} {k n : Nat} {f : Addr} {fd : FuncData} {ps : List Str} {sp : Sp} {F : FD} {x : Str} {p pos : Pos} {e : Expr} {es : List Expr} {g : AF} {t : TA}
theorem pe_callG (G : FnG X.prog X.w X.K X.mg X.base k f fd ps sp) (hr : Room k X.A) (hq : X.A.guards = some []) (hg : Gl X x) (hm : X.mg x = some (.ref f)) (hk : PySem.W.keepIn X.K (.ref f) = true) (hb : Binds X.K fd ps [])
    {E : L2.St → XK} (hx : ∀ σ, PassesAt (L2.CX X.prog X.w) X σ (E σ)) (ha : PA X (e :: es) t) (hdb : (x == ("__debug__" : Str)) = false := by decide) (he : starEach (e :: es) X.env = (false, eval e X.env) :: starEach es X.env := by rfl) (hpl : (backTo pos (starEach es X.env)).any (·.1) = false := by rfl) :
    PE X (.Call (.Name x p) (e :: es) [] pos) (tCallSD sp [] E t) := by
  refine ⟨fun pins s σ H Q I h => ?_⟩
  refine wpAny_Call_Name_kw (ld_glob I hg hm ?_ hdb)
  refine PySem.W.callWith_K (h₀ := X.base) I.ok.mod.kin hk (thn (ha.run pos pins s σ H _ I h) fun us s1 ⟨vs, H1, I1, r, q⟩ => ⟨I1.kIn, ?_⟩) he hpl
  have q' : sp vs H1 Q (E σ) := by rw [← List.append_nil vs]; exact q
  have hl : us.length = ps.length := r.length.symm.trans (G.len _ _ _ _ q')
  have hb' := hb s1 us I1.kIn (by rw [List.append_nil]; exact hl)
  rw [List.append_nil] at hb'
  refine wpAny_call (codeAny_mono (G.go X.A X.stack s1 H1 ⟨us, []⟩ us vs Q (E σ) hr hq I1.env0 hb' r q') ?_)
  intro z s2 hz
  cases z with
  | error y => exact hx σ pins H1 s1 y s2 I1 hz
  | ok fl =>
    cases fl with
    | ret u => exact I1.after hz
    | next => exact False.elim hz
    | brk => exact False.elim hz
    | cont => exact False.elim hz
theorem ex_callG (G : FnG X.prog X.w X.K X.mg X.base k f fd ps (spF X.K X.w X.mg n F)) (hr : Room k X.A) (hq : X.A.guards = some []) (hg : Gl X x) (hm : X.mg x = some (.ref f)) (hk : PySem.W.keepIn X.K (.ref f) = true) (hb : Binds X.K fd ps [])
    (tk : Takes X Wx) (ha : EA X Wx (e :: es) g) (hdb : (x == ("__debug__" : Str)) = false := by decide) (he : starEach (e :: es) X.env = (false, eval e X.env) :: starEach es X.env := by rfl) (hpl : (backTo pos (starEach es X.env)).any (·.1) = false := by rfl) :
    EX X Wx (.Call (.Name x p) (e :: es) [] pos) (xCall n F g) := by
  refine PE.wk (pe_callG (E := fun σ cls d H => Wx cls d σ H) G hr hq hg hm hk hb (fun σ => passAt tk σ) ha hdb he hpl) ?_
  rintro σ H Q ⟨ρ, W, env, A, S, h⟩
  refine tG_then S h fun ds W1 H1 env1 A1 vs S1 F1 r1 h1 => ?_
  by_cases hn : ds.length = n
  · simp only [if_pos hn] at h1
    rw [List.append_nil]
    refine ⟨W1, ds, S1.sub, r1, hn, ?_⟩
    cases eF : F ds with
    | bad => rw [eF] at h1; exact h1.elim
    | ok d =>
      rw [eF] at h1
      exact fun W' H' v ex r => h1 W' H' A1 v (S1.ex ex) (ex.fr _) r
    | exc c d e' =>
      rw [eF] at h1
      exact fun C W' H' dx v g ex hx r => h1 C W' H' A1 dx v g (S1.ex ex) (ex.fr _) hx r
  · simp only [if_neg hn] at h1
    exact h1.elim
end
end DP
set_option Elab.async false
set_option linter.all false
set_option maxRecDepth 100000
/-! DP, part 14: the script; one's own lists, changed. -/
namespace DP
open PySem PySem.Spec PyProof.Rows L2

/-! ### the script -/
def xLenS (i : Nat) : XF := fun env => match env[i]? with
  | some (.sc ns) => .ok (.int ns.length, env)
  | _ => .bad
def xAtS (i : Nat) (f : XF) : XF := fun env => match env[i]? with
  | some (.sc ns) => (f env).bind fun r => match r.1 with
    | .int k => liftO ((atI ns k).map .int) r.2
    | _ => .bad
  | _ => .bad
theorem atI_map {α β : Type} (f : α → β) (xs : List α) (k : Int) : atI (xs.map f) k = (atI xs k).map f := by
  unfold atI
  rw [List.length_map]
  cases ixN xs.length k with
  | none => rfl
  | some j => simp
section
variable {X : Cx} {Wx : WX} {i : Nat} {x : Str} {p pos p2 : Pos} {e : Expr} {es : List Expr} {f : XF}
theorem ex_lenS (h : PE X (.Name x p) (tVar i)) (hg : Gl X "len") (hm : X.mg "len" = none) : EX X Wx (.Call (.Name "len" p2) [.Name x p] [] pos) (xLenS i) := by
  refine PE.wk (pe_callB call_len_seq hg hm PySem.boot_len (pa_cons h pa_nil)) ?_
  rintro σ H Q ⟨ρ, W, env, A, S, h⟩
  unfold xLenS at h
  cases e : env[i]? with
  | none => rw [e] at h; exact h.elim
  | some sl =>
    rw [e] at h
    obtain ⟨v, l, h1, h2, h3⟩ := S.at e
    cases sl with
    | sc ns =>
      obtain ⟨_, a, rfl, q⟩ := h3
      refine ⟨.ref a, h1, a, _, rfl, .inl (Same.sql S.sub q), ?_⟩
      rw [List.length_map]
      exact h W H A _ S (Fr.refl _ _ _) rfl
    | _ => exact h.elim
theorem ex_atS (h : PE X (.Name x p) (tVar i)) (hf : EX X Wx e f) (hs : PlainIx e) : EX X Wx (.Subscript (.Name x p) e pos) (xAtS i f) := by
  refine PE.wk (pe_ix ix_list h hf hs) ?_
  rintro σ H Q ⟨ρ, W, env, A, S, h⟩
  unfold xAtS at h
  cases e : env[i]? with
  | none => rw [e] at h; exact h.elim
  | some sl =>
    rw [e] at h
    obtain ⟨v, l, h1, h2, h3⟩ := S.at e
    cases sl with
    | sc ns =>
      obtain ⟨_, a, rfl, q⟩ := h3
      refine ⟨.ref a, h1, tG_then S h fun d W1 H1 env1 A1 u S1 F1 r1 h4 => ?_⟩
      cases d with
      | int k =>
        simp only [Rep] at r1
        subst r1
        simp only at h4
        cases ek : atI ns k with
        | none => rw [ek] at h4; exact h4.elim
        | some n =>
          rw [ek] at h4
          refine ⟨a, _, k, .int n, rfl, rfl, Same.sql S1.sub (Same.sql F1.ext q), by rw [atI_map, ek]; rfl, h4 W1 H1 A1 _ S1 (Fr.refl _ _ _) rfl⟩
      | _ => exact h4.elim
    | _ => exact h.elim
end

/-! ### one's own containers, changed -/
theorem SR.mut {K : PySem.W.Frag} {w : World} {ρ : Nat → Addr} {W H : Hp} {env : Ev} {σ : L2.St} {A : List (List Addr)} (S : SR K w ρ W H env σ A) {i : Nat} {t : Option Nat} {c c' : D} {p : Addr} {o : HO} (hi : env[i]? = some (.ow t c)) (hp : σ[i]? = some (some (.ref p)))
    (ho : Own K w W (upd H p o) c' p) : SR K w ρ W (upd H p o) (env.set i (.ow t c')) σ A ∧ Fr W H (ownd A) W (upd H p o) (ownd A) := by
  obtain ⟨v, l, h1, h2, h3⟩ := S.at hi
  obtain ⟨p', rfl, e3, q1, q2, q3⟩ := h3
  rw [hp] at h1
  have ep : p' = p := by cases h1; cases e3; rfl
  subst ep
  have sub : Same W (upd H p' o) := fun b u q => by rw [upd_ne (ne_of_none q q1)]; exact S.sub b u q
  refine ⟨⟨sub, by simp [S.le], S.la, fun j s v l j1 j2 j3 => ?_, S.inj⟩, Same.refl _, fun b u hb hn => ?_, fun b h1 h2 => absurd h2 h1, fun b hb => .inl hb⟩
  · rcases at_set j1 with ⟨e1, e2⟩ | ⟨e1, e2⟩
    · subst e1 e2
      rw [hp] at j2
      cases j2
      rw [h2] at j3
      cases j3
      exact ⟨p', rfl, rfl, q1, ho, q3⟩
    · refine (S.slot j s v l e2 j2 j3).keep (Same.refl _) fun b hb => ?_
      have hbp : b ≠ p' := fun z => e1 (S.inj j i l [p'] b j3 h2 hb (by simp [z]))
      exact ⟨upd_ne hbp, (S.own ⟨j, l, j3, hb⟩).1⟩
  · have hbp : b ≠ p' := fun z => hn ⟨i, [p'], h2, by simp [z]⟩
    rw [upd_ne hbp]
    exact hb
def isLst : D → Bool
  | .list _ => true
  | _ => false
/-- x.m(..), x one's own list: op gives what it returns, and the list behind it -/
def xMutL (i : Nat) (op : List D → List D → Option (D × List D)) (g : AF) : XF := fun env => match env[i]? with
  | some (.ow _ (.list _)) => (g env).bind fun r => match r.2[i]? with
    | some (.ow t (.list ds)) => (match op ds r.1 with
      | some (z, ds') => .ok (z, r.2.set i (.ow t (.list ds')))
      | none => .bad)
    | _ => .bad
  | _ => .bad
/-- what a list's method must keep for xMutL -/
def MutR (X : Cx) (r : V → List V → Hp → VK → Prop) (op : List D → List D → Option (D × List D)) : Prop :=
  ∀ (W H : Hp) (p : Addr) (ds as : List D) (vs us : List V) (z : D) (ds' : List D) (Q : VK), Same W H → W p = none → H p = some (.lst vs) → RepL X.K X.w W ds vs → RepL X.K X.w W as us → op ds as = some (z, ds') →
    (∀ vs' v, RepL X.K X.w W ds' vs' → Rep X.K X.w W z v → Q v (upd H p (.lst vs'))) → r (.ref p) us H Q
def opApp (ds as : List D) : Option (D × List D) := match as with
  | [d] => if ds.length < sizeLine then some (.none, ds ++ [d]) else none
  | _ => none
def opExt (ds as : List D) : Option (D × List D) := match as with
  | [.list es] => if ds.length + es.length ≤ sizeLine then some (.none, ds ++ es) else none
  | _ => none
section
variable {X : Cx} {Wx : WX}
theorem mut_app : MutR X rAppend opApp := by
  intro W H p ds as vs us z ds' Q s n h r ra e q
  unfold opApp at e
  split at e
  · rename_i d
    split at e
    · rename_i c
      cases e
      simp only [RepL] at ra
      obtain ⟨v, _, rfl, r1, rfl⟩ := ra
      exact ⟨p, vs, v, rfl, rfl, h, by rw [r.len]; exact c, q _ _ (r.snoc r1) rfl⟩
    · cases e
  · cases e
theorem mut_ext : MutR X rExtend opExt := by
  intro W H p ds as vs us z ds' Q s n h r ra e q
  unfold opExt at e
  split at e
  · rename_i es
    split at e
    · rename_i c
      cases e
      simp only [RepL, Rep] at ra
      obtain ⟨v, _, rfl, ⟨b, zs, rfl, hb, rb⟩, rfl⟩ := ra
      exact ⟨p, b, vs, zs, rfl, rfl, h, s _ _ hb, by rw [r.len, rb.len]; exact c, q _ _ (r.append rb) rfl⟩
    · cases e
  · cases e
theorem ex_mutL {i : Nat} {x name : Str} {id : String} {p apos cpos : Pos} {e : Expr} {es : List Expr} {g : AF} {r : V → List V → Hp → VK → Prop} {op : List D → List D → Option (D × List D)} (slot : Slot "list" name id) (hty : typeOf (.builtin id) = pure (.type "method_descriptor")) (hm : MtR X id r) (mu : MutR X r op)
    (h : PE X (.Name x p) (tVar i)) (ha : EA X Wx (e :: es) g)
    (hbase : attributeBase (.Name x p) name X.env (eval (.Name x p) X.env) = eval (.Name x p) X.env := by rfl)
    (hfew : ((backTo cpos (starEach (e :: es) X.env)).all (fun x => !x.1) && (backToKw cpos (keywordEach [] X.env)).all (fun x => x.1.isSome)
      && decide ((e :: es).length + ([] : List Keyword).length + (if ([] : List Keyword).isEmpty then 0 else 1) < 30)) = true := by rfl)
    (hline : (apos.endLine == cpos.line) = true := by rfl) (hs : starEach (e :: es) X.env = (false, eval e X.env) :: starEach es X.env := by rfl) (hplain : (backTo cpos (starEach es X.env)).any (·.1) = false := by rfl) :
    EX X Wx (.Call (.Attribute (.Name x p) name apos) (e :: es) [] cpos) (xMutL i op g) := by
  refine PE.wk (pe_bm PySem.F.plainAttrs_list slot hty hm h ha hbase hfew hline hs hplain) ?_
  rintro σ H Q ⟨ρ, W, env, A, S, h⟩
  unfold xMutL at h
  split at h
  · rename_i t0 ds0 e0
    obtain ⟨v, l, h1, h2, h3⟩ := S.at e0
    obtain ⟨p, rfl, rfl, q3, ⟨vs0, q4, _⟩, _⟩ := h3
    refine ⟨.ref p, h1, .inl ⟨rfl, vs0, .of q4⟩, tG_then S h fun as W1 H1 env1 A1 us S1 F1 ra h4 => ?_⟩
    simp only at h4
    split at h4
    · rename_i t ds e1
      split at h4
      · rename_i z ds' eo
        obtain ⟨v, l, g1, g2, g3⟩ := S1.at e1
        obtain ⟨p', rfl, e3, g3, ⟨vs, g4, rv⟩, g5⟩ := g3
        rw [h1] at g1
        have ep : p' = p := by cases g1; cases e3; rfl
        subst ep
        refine mu W1 H1 p' ds as vs us z ds' Q S1.sub g3 g4 rv ra eo fun vs' v rv' rz => ?_
        obtain ⟨S2, F2⟩ := S1.mut (c' := .list ds') (o := .lst vs') e1 h1 ⟨vs', upd_same, rv'⟩
        exact h4 W1 _ A1 v S2 F2 rz
      · exact h4.elim
    · exact h4.elim
  · exact h.elim
end
end DP
set_option Elab.async false
set_option linter.all false
set_option maxRecDepth 100000
/-! DP, part 15: chains, globals, len, subscripts, a, b = x, y; repr. -/
namespace DP
open PySem PySem.Spec PyProof.Rows L2

/-! ### a < b < c -/
section
variable {X : Cx} {Wx : WX} {a b c : Expr} {f g k : XF} {pos : Pos} {op op' : CmpOp} {o o' : D → D → Option D}
/-- a comparison that gives a bool -/
def BoolOp2 (o : D → D → Option D) : Prop := ∀ x y z, o x y = some z → ∃ b, z = .bool b
theorem ex_chain (ho : OpR X (compareOp op) (tV2 X.K X.w o)) (ho' : OpR X (compareOp op') (tV2 X.K X.w o')) (ha : EX X Wx a f) (hb : EX X Wx b g) (hc : EX X Wx c k)
    (hm : lastMarks [op, op'] [b, c] = false := by with_unfolding_all rfl) : EX X Wx (.Compare a [op, op'] [b, c] pos) (xChain o o' f g k) := by
  refine PE.wk (pe_chain ho ho' ha hb hc hm) ?_
  rintro σ H Q ⟨ρ, W, env, A, S, h⟩
  unfold xChain at h
  refine tG_then S h fun d W1 H1 env1 A1 v S1 F1 r1 h1 => ?_
  refine tG_then S1 h1 fun d2 W2 H2 env2 A2 u S2 F2 r2 h2 => ?_
  simp only at h2
  refine ⟨W2, d, d2, S2.sub, Rep.mono F2.ext d v r1, r2, ?_⟩
  cases eo : o d d2 with
  | none => rw [eo] at h2; exact h2.elim
  | some z =>
    rw [eo] at h2
    intro W3 H3 v3 e3 r3
    simp only [liftO_some, Out.bind_ok] at h2
    unfold asB at h2
    cases z with
    | bool q =>
      simp only [Rep] at r3
      subst r3
      refine ⟨q, rfl, ?_⟩
      simp only [Out.bind_ok] at h2
      have S3 := S2.ex e3
      cases q with
      | false =>
        simp only [Bool.false_eq_true, if_false] at h2 ⊢
        exact h2 W3 H3 A2 _ S3 (e3.fr _) rfl
      | true =>
        simp only [if_true] at h2 ⊢
        have h3 := onG_fr h2 (e3.fr (ownd A2))
        refine tG_then S3 h3 fun d4 W4 H4 env4 A4 v4 S4 F4 r4 h4 => ?_
        have h5 : onX X Wx ρ σ W4 H4 A4 (liftO (o' d2 d4) env4) Q := by
          simp only at h4
          cases eo' : o' d2 d4 with
          | none => rw [eo'] at h4; exact h4.elim
          | some z => rw [eo'] at h4; exact h4
        exact ⟨W4, d2, d4, S4.sub, Rep.mono (e3.ext.trans F4.ext) d2 u r2, r4, onV_of S4 h5⟩
    | _ => exact h2.elim
/-- a name of the module: a constant -/
theorem ex_globI {x : Str} {i : Int} {t : Tok} (hg : Gl X x) (hm : X.mg x = some (.int i t)) (hd : (x == ("__debug__" : Str)) = false := by decide) : EX X Wx (.Name x pos) (xConst (.int i)) :=
  ex_const (pe_glob (v := .int i) hg hm ⟨t, rfl⟩ hd) fun W => by simp only [Rep]
theorem ex_globS {x y : Str} {t : Tok} (hg : Gl X x) (hm : X.mg x = some (.str y t)) (hd : (x == ("__debug__" : Str)) = false := by decide) : EX X Wx (.Name x pos) (xConst (.str y)) :=
  ex_const (pe_glob (v := .str y) hg hm ⟨t, rfl⟩ hd) fun W => by simp only [Rep]
end

/-! ### len -/
def lenD (ds : List D) : Option D := match ds with
  | [.list xs] => some (.int xs.length)
  | [.tuple xs] => some (.int xs.length)
  | [.str x] => if x.length ≤ sizeLine then some (.int x.length) else none
  | [.dict xs] => some (.int xs.length)
  | _ => none
theorem CallR.or {X : Cx} {f : Value} {r r' : List V → Hp → VK → Prop} (h : CallR X f r) (h' : CallR X f r') : CallR X f (fun x H Q => r x H Q ∨ r' x H Q) := fun pins s σ H x v Q I r1 q => q.elim (h pins s σ H x v Q I r1) (h' pins s σ H x v Q I r1)
theorem RepKV.len {K : PySem.W.Frag} {w : World} {W : Hp} : ∀ {kvs : List (D × D)} {es : List DictEntry}, RepKV K w W kvs es → es.length = kvs.length
  | [], _, h => by simp only [RepKV] at h; subst h; rfl
  | (k, d) :: r, _, h => by
    simp only [RepKV] at h
    obtain ⟨e, q, rfl, _, _, _, h2⟩ := h
    simp [RepKV.len h2]
section
variable {X : Cx} {Wx : WX}
theorem dlen {w : World} {prog : Program} {A : Around} {E : Value → Shared → Prop} {s : Shared} {a : Addr} {es : Array DictEntry} {ep : Nat} {Q : Value → Shared → Prop} (hs : (a == sysModules) = false) (ho : s.heap.get? a = some (dobj es ep)) (hz : es.size ≤ sizeLine)
    (h : ∀ t tk, Q (.int es.size t) { s with toks := tk }) : wpAny (model prog w) A (call (.builtin "len") [.ref a]) Q E s := by
  have T := dobj_type ho
  have hz' : (es.size : Int) < 2 ^ 63 := by rw [sizeLine_eq] at hz; omega
  refine Calls.call_function_entry kind_len plain_len entry_len (args_len1 _) ?_
  unfold Builtin.«len»
  refine wpAny_bind (m := oneArg "len" _) (wpAny_pure ?_)
  refine wpAny_bind (m := callSpecial? (.ref a) (Str.ofString "__len__")) (wpAny_callSpecial?_slot (name := Str.ofString "__len__") T F.slot_dict_len (call_len_raw hs ⟨_, ho, ⟨rfl, rfl, rfl⟩, rfl⟩ ?_))
  refine wpAny_bind (wpAny_holding (wpAny_pure ?_))
  refine wpAny_bind (wpAny_letGo ?_)
  show wpAny _ _ (if ((es.size : Nat) : Int) < 0 then _ else _) _ _ _
  rw [if_neg (by omega)]
  show wpAny _ _ (if ((es.size : Nat) : Int) ≥ 2 ^ 63 then _ else _) _ _ _
  rw [if_neg (by omega)]
  exact wpAny_bind (wpAny_mkInt (wpAny_pure ⟨_, rfl, h _ _⟩))
theorem cr_lenDict : CallR X (.builtin "len") (fun xs H Q => ∃ p es ep, xs = [.ref p] ∧ H p = some (dicO p es ep) ∧ Q (.int es.size) H) := by
  intro pins s σ H xs us Q I r h
  obtain ⟨p, es, ep, rfl, hq, q⟩ := h
  obtain ⟨u, rfl, rx⟩ := vals1 r
  cases rx
  obtain ⟨⟨h1, h2, h3⟩, _⟩ := I.hok p _ hq
  exact dlen h1 h3 h2 fun t tk => ⟨.int es.size, H, I.tok _, ⟨t, rfl⟩, q⟩
theorem cr_lenD : CallR X (.builtin "len") (tVn X.K X.w lenD) := by
  refine CallR.wk (CallR.or call_len_seq (CallR.or call_len_str cr_lenDict)) ?_
  rintro xs H Q ⟨W, ds, s, r, h⟩
  unfold lenD at h
  split at h
  · simp only [RepL, Rep] at r
    obtain ⟨v, _, rfl, ⟨a, vs, rfl, q, l⟩, rfl⟩ := r
    exact .inl ⟨a, vs, rfl, .inl (.of (s _ _ q)), h.flat s (by simp only [Rep]; rw [l.len])⟩
  · simp only [RepL, Rep] at r
    obtain ⟨v, _, rfl, ⟨a, vs, rfl, q, l⟩, rfl⟩ := r
    exact .inl ⟨a, vs, rfl, .inr (Same.sqt s q), h.flat s (by simp only [Rep]; rw [l.len])⟩
  · simp only [RepL, Rep] at r
    obtain ⟨v, _, rfl, rfl, rfl⟩ := r
    split at h
    · rename_i c
      exact .inr (.inl ⟨_, rfl, c, h.flat s rfl⟩)
    · exact h.elim
  · simp only [RepL, Rep] at r
    obtain ⟨v, _, rfl, ⟨a, es, ep, rfl, q, l, _⟩, rfl⟩ := r
    refine .inr (.inr ⟨a, es, ep, rfl, s _ _ q, h.flat s ?_⟩)
    simp only [Rep]
    rw [← l.len, Array.length_toList]
  · exact h.elim
end

/-! ### keys -/
mutual
theorem nested_of : ∀ {h : Heap} {u : Value} {d : D} {as : List Addr} {k : NestedKey}, Reads h u d as → keyD d = some k → NestedIs h k u
  | _, _, _, _, _, .none, e => by simp only [keyD, Option.some.injEq] at e; subst e; exact .none
  | _, _, _, _, _, .bool b, e => by simp only [keyD, Option.some.injEq] at e; subst e; exact .bool rfl
  | _, _, _, _, _, .int i t, e => by simp only [keyD, Option.some.injEq] at e; subst e; exact .int i t
  | _, _, _, _, _, .str x t, e => by simp only [keyD, Option.some.injEq] at e; subst e; exact .text x t
  | _, _, _, _, _, .tuple h1 h2 h3 h4, e => by
    simp only [keyD] at e
    obtain ⟨ks, e1, e2⟩ := Option.map_eq_some_iff.mp e
    subst e2
    exact .tup h1 h2 h3 (nested_all h4 e1)
  | _, _, _, _, _, .list _ _ _ _, e => by simp [keyD] at e
  | _, _, _, _, _, .dict _ _ _ _ _, e => by simp [keyD] at e
theorem nested_all : ∀ {h : Heap} {us : List Value} {ds : List D} {as : List Addr} {ks : List NestedKey}, ReadsAll h us ds as → keysD ds = some ks → NestedAll h ks us
  | _, _, _, _, _, .nil, e => by simp only [keysD, Option.some.injEq] at e; subst e; exact .nil
  | _, _, _, _, _, .cons r t, e => by
    simp only [keysD] at e
    obtain ⟨k, e1, e2⟩ := Option.bind_eq_some_iff.mp e
    obtain ⟨ks, e3, e4⟩ := Option.map_eq_some_iff.mp e2
    subst e4
    exact .cons (nested_of r e1) (nested_all t e3)
end
def keyOk (k : D) : Bool := match keyD k with
  | some kk => decide (kk.depth ≤ 8)
  | none => false
def kIs (k : D) (p : D × D) : Bool := decide (keyD p.1 = keyD k)
def dAt (kvs : List (D × D)) (k : D) : Option D := (kvs.find? (kIs k)).map (·.2)
theorem keyOk_iff {k : D} (h : keyOk k = true) : ∃ kk, keyD k = some kk ∧ kk.depth ≤ 8 := by
  unfold keyOk at h
  split at h
  · rename_i kk e
    exact ⟨kk, e, of_decide_eq_true h⟩
  · cases h
theorem find_nodup {α β : Type} [DecidableEq β] (f : α → β) : ∀ {l : List α} {j : Nat} {p : α}, (l.map f).Nodup → l[j]? = some p → l.find? (fun q => decide (f q = f p)) = some p
  | [], _, _, _, h => by simp at h
  | q :: l, 0, p, _, h => by
    cases h
    rw [List.find?_cons_of_pos (by simp)]
  | q :: l, j + 1, p, n, h => by
    rw [List.map_cons, List.nodup_cons] at n
    have h' : l[j]? = some p := by simpa using h
    rw [List.find?_cons_of_neg (by
      simp only [decide_eq_true_eq]
      exact fun z => n.1 (by rw [z]; exact List.mem_map.mpr ⟨p, List.mem_of_getElem? h', rfl⟩))]
    exact find_nodup f n.2 h'
section
variable {K : PySem.W.Frag} {w : World} {W : Hp}
theorem RepKV.at : ∀ {kvs : List (D × D)} {es : List DictEntry} {j : Nat} {e : DictEntry}, RepKV K w W kvs es → es[j]? = some e →
    ∃ k v, kvs[j]? = some (k, v) ∧ (∃ kk, keyD k = some kk ∧ kk.depth ≤ 8 ∧ e.hash = kk.hash w) ∧ (∃ x, RelV x e.key ∧ Rep K w W k x) ∧ ∃ y, RelV y e.val ∧ Rep K w W v y
  | [], _, _, _, h, e => by simp only [RepKV] at h; subst h; simp at e
  | (k, d) :: r, _, 0, _, h, e => by
    simp only [RepKV] at h
    obtain ⟨en, q, rfl, h1, h2, h3, _⟩ := h
    cases e
    exact ⟨k, d, rfl, h1, h2, h3⟩
  | (k, d) :: r, _, j + 1, _, h, e => by
    simp only [RepKV] at h
    obtain ⟨en, q, rfl, h1, h2, h3, h4⟩ := h
    obtain ⟨k', v', q1, q2⟩ := RepKV.at (j := j) h4 (by simpa using e)
    exact ⟨k', v', by simpa using q1, q2⟩
theorem RepKV.keys : ∀ {kvs : List (D × D)} {es : List DictEntry}, RepKV K w W kvs es → ∃ ks : List NestedKey, kvs.map (fun p => keyD p.1) = ks.map some
  | [], _, _ => ⟨[], rfl⟩
  | (k, d) :: r, _, h => by
    simp only [RepKV] at h
    obtain ⟨en, q, rfl, ⟨kk, h1, _⟩, h2, h3, h4⟩ := h
    obtain ⟨ks, e⟩ := RepKV.keys h4
    exact ⟨kk :: ks, by rw [List.map_cons, List.map_cons, e, h1]⟩
variable {X : Cx} {pins : List (Addr × Obj)} {σ : L2.St} {H : Hp} {s : Shared}
theorem Rep.key (I : Inv X pins σ H s) (sm : Same W H) {d : D} {v : V} {u : Value} {k : NestedKey} (r : Rep X.K X.w W d v) (ru : RelV v u) (e : keyD d = some k) : NestedIs s.heap k u := by
  obtain ⟨as, ra⟩ := Rep.reads I sm d v u r ru
  exact nested_of ra e
theorem RepKV.ents (I : Inv X pins σ H s) (sm : Same W H) {kvs : List (D × D)} {es : Array DictEntry} (r : RepKV X.K X.w W kvs es.toList) (nd : (kvs.map fun p => keyD p.1).Nodup) :
    ∃ ks : List NestedKey, kvs.map (fun p => keyD p.1) = ks.map some ∧ Ents X.w s.heap ks es := by
  obtain ⟨ks, e⟩ := r.keys
  refine ⟨ks, e, ?_, fun i en he => ?_, ?_⟩
  · have h1 := congrArg List.length e
    have h2 := r.len
    rw [Array.length_toList] at h2
    simp only [List.length_map] at h1
    omega
  · obtain ⟨k, v, q1, ⟨kk, q2, q3, q4⟩, ⟨x, q5, q6⟩, _⟩ := r.at (j := i) (e := en) (by rw [Array.getElem?_toList]; exact he)
    refine ⟨kk, ?_, Rep.key I sm q6 q5 q2, q3, q4⟩
    have := congrArg (fun l => l[i]?) e
    simp only [List.getElem?_map, q1, Option.map_some, q2] at this
    cases hk : ks[i]? with
    | none => rw [hk] at this; cases this
    | some z => rw [hk] at this; cases this; rfl
  · rw [e] at nd
    exact List.Pairwise.of_map some (fun a b h z => h (congrArg some z)) nd
/-- what the search found -/
theorem hit_none {kvs : List (D × D)} {ks : List NestedKey} {d : D} {k : NestedKey} (e : kvs.map (fun p => keyD p.1) = ks.map some) (hk : keyD d = some k) (h : Hit ks k none) : dAt kvs d = none ∧ kvs.any (kIs d) = false := by
  have : ∀ p ∈ kvs, ¬ kIs d p = true := fun p hp z => by
    have z' := of_decide_eq_true z
    have hm : keyD p.1 ∈ kvs.map (fun p => keyD p.1) := List.mem_map.mpr ⟨p, hp, rfl⟩
    rw [e, z', hk] at hm
    obtain ⟨k', h1, h2⟩ := List.mem_map.mp hm
    cases h2
    exact h h1
  refine ⟨?_, by rw [List.any_eq_false]; exact this⟩
  unfold dAt
  rw [List.find?_eq_none.mpr this]
  rfl
theorem hit_some {kvs : List (D × D)} {ks : List NestedKey} {d : D} {k : NestedKey} {j : Nat} (e : kvs.map (fun p => keyD p.1) = ks.map some) (nd : (kvs.map fun p => keyD p.1).Nodup) (hk : keyD d = some k) (h : Hit ks k (some j)) :
    ∃ p, kvs[j]? = some p ∧ keyD p.1 = keyD d ∧ dAt kvs d = some p.2 ∧ kvs.any (kIs d) = true := by
  have h1 : (kvs.map fun p => keyD p.1)[j]? = some (some k) := by rw [e, List.getElem?_map, show ks[j]? = some k from h]; rfl
  rw [List.getElem?_map] at h1
  obtain ⟨p, hp, hq⟩ := Option.map_eq_some_iff.mp h1
  have hq' : keyD p.1 = keyD d := hq.trans hk.symm
  refine ⟨p, hp, hq', ?_, ?_⟩
  · unfold dAt kIs
    have := find_nodup (fun p : D × D => keyD p.1) nd hp
    simp only [hq'] at this
    rw [this]
    rfl
  · exact List.any_eq_true.mpr ⟨p, List.mem_of_getElem? hp, decide_eq_true hq'⟩
end

/-! ### subscripts -/
def ixD (x k : D) : Option D := match x, k with
  | .list ds, .int i => atI ds i
  | .tuple ds, .int i => atI ds i
  | .str z, .int i => if z.length ≤ sizeLine then (atI z.cps.toList i).map fun c => .str ⟨#[c]⟩ else none
  | .dict kvs, k => if keyOk k = true then dAt kvs k else none
  | _, _ => none
theorem RepL.atI' {K : PySem.W.Frag} {w : World} {W : Hp} {ds : List D} {vs : List V} {i : Int} {d : D} (h : RepL K w W ds vs) (e : atI ds i = some d) : ∃ v, atI vs i = some v ∧ Rep K w W d v := by
  unfold atI at e ⊢
  rw [h.len]
  obtain ⟨j, e1, e2⟩ := Option.bind_eq_some_iff.mp e
  obtain ⟨v, h1, h2⟩ := h.at e2
  exact ⟨v, by rw [e1]; exact h1, h2⟩
section
variable {X : Cx} {Wx : WX} {W H : Hp}
def rIxDic (X : Cx) : R2 := fun x y H Q => ∃ W a es ep k kvs, x = .ref a ∧ Same W H ∧ Rep X.K X.w W k y ∧ keyOk k = true ∧ H a = some (dicO a es ep) ∧ RepKV X.K X.w W kvs es.toList ∧ (kvs.map fun p => keyD p.1).Nodup ∧
  ∃ d, dAt kvs k = some d ∧ ∀ v, Rep X.K X.w W d v → Q v H
theorem ix_dic (hu : X.A.units + 64 < cLine) : IxR X (rIxDic X) := by
  intro value slice pins s σ H x y v u Q I rx ry h hs
  obtain ⟨W, a, es, ep, k, kvs, rfl, sm, rk, ok, hH, kv, nd, d, hd, q⟩ := h
  cases rx
  obtain ⟨kk, k1, k2⟩ := keyOk_iff ok
  obtain ⟨⟨h1, h2, h3⟩, _⟩ := I.hok a _ hH
  obtain ⟨ks, ek, N⟩ := RepKV.ents I sm kv nd
  have hk := Rep.key I sm rk ry k1
  have hm : kk ∈ ks := by
    cases hit : decide (kk ∈ ks) with
    | true => exact of_decide_eq_true hit
    | false =>
      have := (hit_none ek k1 (show Hit ks kk none from of_decide_eq_false hit)).1
      rw [this] at hd; cases hd
  obtain ⟨j, hj⟩ := List.getElem?_of_mem hm
  obtain ⟨p, p1, p2, p3, _⟩ := hit_some ek nd k1 (show Hit ks kk (some j) from hj)
  obtain ⟨e, e1, _⟩ := N.get hj
  obtain ⟨k', v', q1, _, _, yv, q2, q3⟩ := kv.at (j := j) (e := e) (by rw [Array.getElem?_toList]; exact e1)
  rw [p1] at q1
  cases q1
  rw [hd] at p3
  cases p3
  exact subscriptTail_builtinR (x := e.val) (dobj_type h3) F.slot_dict_getitem.lookup (dgetItem (Q := fun r s' => r = e.val ∧ EP X pins σ Q r s') N (by omega) h3 hk k2 hj e1 fun t => ⟨rfl, yv, H, I.tok _, q2, q yv q3⟩) hs
theorem ix_dD (hu : X.A.units + 64 < cLine) : IxR X (tV2 X.K X.w ixD) := by
  intro value slice pins s σ H x y v u Q I rx ry h hs
  refine (ix_list.or (ix_tup.or (ix_str.or (ix_dic hu)))) value slice pins s σ H x y v u Q I rx ry ?_ hs
  obtain ⟨W, d, k, sm, r1, r2, h⟩ := h
  unfold ixD at h
  split at h
  · simp only [Rep] at r1 r2
    obtain ⟨a, vs, rfl, q, l⟩ := r1
    subst r2
    rename_i ds i
    cases e : atI ds i with
    | none => rw [e] at h; exact h.elim
    | some d =>
      rw [e] at h
      obtain ⟨z, e1, r⟩ := l.atI' e
      exact .inl ⟨a, vs, i, z, rfl, rfl, .of (sm _ _ q), e1, h.flat sm r⟩
  · simp only [Rep] at r1 r2
    obtain ⟨a, vs, rfl, q, l⟩ := r1
    subst r2
    rename_i ds i
    cases e : atI ds i with
    | none => rw [e] at h; exact h.elim
    | some d =>
      rw [e] at h
      obtain ⟨z, e1, r⟩ := l.atI' e
      exact .inr (.inl ⟨a, vs, i, z, rfl, rfl, Same.sqt sm q, e1, h.flat sm r⟩)
  · simp only [Rep] at r1 r2
    subst r1 r2
    rename_i z i
    split at h
    · rename_i c
      cases e : atI z.cps.toList i with
      | none => rw [e] at h; exact h.elim
      | some d =>
        rw [e] at h
        exact .inr (.inr (.inl ⟨z, i, d, rfl, rfl, c, e, h.flat sm rfl⟩))
    · exact h.elim
  · rename_i kvs
    simp only [Rep] at r1
    obtain ⟨a, es, ep, rfl, q, l, nd⟩ := r1
    split at h
    · rename_i c
      cases e : dAt kvs k with
      | none => rw [e] at h; exact h.elim
      | some d =>
        rw [e] at h
        exact .inr (.inr (.inr ⟨W, a, es, ep, _, kvs, rfl, sm, r2, c, sm _ _ q, l, nd, d, e, fun v r => h.flat sm r⟩))
    · exact h.elim
  · exact h.elim
theorem ex_ix {a b : Expr} {f g : XF} {pos : Pos} (hu : X.A.units + 64 < cLine) (ha : EX X Wx a f) (hb : EX X Wx b g) (hs : PlainIx b) : EX X Wx (.Subscript a b pos) (x2 ixD f g) :=
  PE.wk (pe_ix (ix_dD hu) ha hb hs) fun σ H Q h => x2_read (fun _ _ _ _ q => q) h

/-! ### repr -/
def reprD (ds : List D) : Option D := match ds with
  | [d] => if d.showable = true ∧ d.hasDict = false ∧ d.depth ≤ 60 ∧ d.shown.length ≤ sizeLine then some (.str d.shown) else none
  | _ => none
theorem cr_reprD (hq : X.A.guards = some []) (hu : X.A.units + 64 < cLine) : CallR X (.builtin "repr") (tVn X.K X.w reprD) := by
  intro pins s σ H xs us Q I r h
  obtain ⟨W, ds, sm, rl, h⟩ := h
  unfold reprD at h
  split at h
  · rename_i d
    simp only [RepL] at rl
    obtain ⟨v, _, rfl, rv, rfl⟩ := rl
    obtain ⟨u, rfl, rx⟩ := vals1 r
    split at h
    · rename_i c
      obtain ⟨c1, c2, c3, c4⟩ := c
      obtain ⟨as, ra⟩ := Rep.reads I sm d v u rv rx
      have fin : ∀ h' t tk, (∀ b o, s.heap.get? b = some o → h'.get? b = some o) → EP X pins σ Q (.str d.shown t) { s with heap := h', toks := tk } := fun h' t tk hk =>
        ⟨.str d.shown, H, I.kept (h' := h') (t' := tk) hk, ⟨t, rfl⟩, h.flat sm rfl⟩
      have fin0 : EP X pins σ Q (.str d.shown s.toks) { s with toks := s.toks + 1 } := fin s.heap s.toks (s.toks + 1) fun _ _ e => e
      have room : X.A.units + (d.depth + 1) < cLine := by omega
      cases ra with
      | none => rw [PyData.shown_none] at fin0; exact PySem.P.repr_of_none fin0
      | bool b => rw [PyData.shown_bool] at fin0; exact PySem.P.repr_of_bool (by cases b <;> exact fin0)
      | int i t =>
        rw [PyData.shown_int] at fin0
        exact PySem.P.repr_of_int (by simpa [PyData.showable] using c1) fin0
      | str x t =>
        rw [PyData.shown_str] at fin0 c4
        exact PySem.P.repr_of_str fin0 c4
      | list h1 h2 h3 h4 =>
        exact repr_of_reads' (.list h1 h2 h3 h4) c1 (PyData.noDict_hsm c2) hq room (fun _ _ e => e) (fun h' t tk hk => fin h' t tk hk) c4
      | tuple h1 h2 h3 h4 =>
        exact repr_of_reads' (.tuple h1 h2 h3 h4) c1 (PyData.noDict_hsm c2) hq room (fun _ _ e => e) (fun h' t tk hk => fin h' t tk hk) c4
      | dict h1 h2 h3 h4 h5 => simp [PyData.hasDict] at c2
    · exact h.elim
  · exact h.elim
end
end DP
set_option Elab.async false
set_option linter.all false
set_option maxRecDepth 100000
/-! DP, part 16: a, b = x, y; sorted(set(xs)) of tuples of ints. -/
namespace DP
open PySem PySem.Spec PyProof.Rows L2

/-! ### a, b = x, y -/
def sPar2 (i j : Nat) (g : AF) : SF := fun env => (g env).bind fun r => match r.1 with
  | [a, b] => .ok (.nx, (r.2.set i (.fz a)).set j (.fz b))
  | _ => .bad
section
variable {X : Cx} {Wx : WX}
theorem es_par2 {i j : Nat} {x y : Str} {a b : Expr} {g : AF} {px py pt pos : Pos} {kt k2 pt2} (hc : X.calm = true) (hN : X.N.Nodup) (hi : X.N[i]? = some x) (hj : X.N[j]? = some y) (hij : i ≠ j)
    (hx : X.env.scope.names.lookup x = some .local) (hy : X.env.scope.names.lookup y = some .local) (ha : EA X Wx [a, b] g)
    (hw : swappedStores [.Tuple [.Name x px, .Name y py] kt pt] (.Tuple [a, b] k2 pt2) X.env = pure (some [x, y]))
    (hs : swapsWithSole [.Tuple [.Name x px, .Name y py] kt pt] (.Tuple [a, b] k2 pt2) pos.line X.env = pure false := by rfl) :
    ES X Wx (.Assign [.Tuple [.Name x px, .Name y py] kt pt] (.Tuple [a, b] k2 pt2) pos) (sPar2 i j g) := by
  refine PS.wk (ps_par hc hN hi hj hij hx hy ha hw hs) ?_
  rintro D σ H ⟨ρ, W, env, A, S, h⟩
  refine tS_then S h fun ds W1 H1 env1 A1 vs S1 F1 r1 h1 => ?_
  simp only at h1
  split at h1
  · simp only [RepL] at r1
    obtain ⟨v, _, rfl, rv, u, _, rfl, ru, rfl⟩ := r1
    exact ⟨v, u, rfl, h1 W1 H1 _ _ ((S1.setFz i rv).setFz j ru) (fr_sub fun p q => ownd_nil (ownd_nil q))⟩
  · exact h1.elim
end

/-! ### sorted(set(..)) -/
abbrev tupI (ns : List Int) : D := .tuple (ns.map .int)
def isIT : D → Option (List Int)
  | .tuple ds => intsD ds
  | _ => none
def itsD : List D → Option (List (List Int))
  | [] => some []
  | d :: r => (isIT d).bind fun n => (itsD r).map fun l => n :: l
/-- strictly before, by the first difference -/
def lexI : List Int → List Int → Bool
  | [], [] => false
  | [], _ :: _ => true
  | _ :: _, [] => false
  | x :: xs, y :: ys => if x = y then lexI xs ys else decide (x < y)
theorem alike_ints : ∀ xs ys : List Int, PySem.W.alikeAll (xs.map PyData.int) (ys.map PyData.int) = true
  | [], _ => by simp [PySem.W.alikeAll]
  | _ :: _, [] => by simp [PySem.W.alikeAll]
  | x :: xs, y :: ys => by
    rw [List.map_cons, List.map_cons, PySem.W.alikeAll, alike_ints xs ys]
    simp [PySem.W.alike]
theorem toks_lexI : ∀ xs ys : List Int, PyProof.Rows.lexLt PyProof.Rows.itemOrd (PySem.W.keyToksAll (xs.map PyData.int)) (PySem.W.keyToksAll (ys.map PyData.int)) = lexI xs ys
  | [], [] => by decide
  | [], y :: ys => by
    rw [List.map_cons, PySem.W.toks_all_cons]
    simp only [List.map_nil, PySem.W.keyToksAll]
    rw [PySem.W.lex_atom (by simp)]
    rfl
  | x :: xs, [] => by
    rw [List.map_cons, PySem.W.toks_all_cons]
    simp only [List.map_nil, PySem.W.keyToksAll]
    rw [PySem.W.lex_atom (by simp)]
    rfl
  | x :: xs, y :: ys => by
    rw [List.map_cons, List.map_cons]
    have al : PySem.W.alike (PyData.int x) (PyData.int y) = true := by simp [PySem.W.alike]
    cases e : PyData.eqv (PyData.int x) (PyData.int y) with
    | true =>
      have hxy : x = y := by simpa [PyData.eqv] using e
      rw [PySem.W.dataLt_all_yes al e, toks_lexI xs ys, lexI, if_pos hxy]
    | false =>
      have hxy : ¬ x = y := by simpa [PyData.eqv] using e
      rw [PySem.W.dataLt_all_no al e, PySem.W.dataLt_int, lexI, if_neg hxy]
theorem dataLt_tupI (xs ys : List Int) : PySem.W.dataLt (tupI xs) (tupI ys) = lexI xs ys := by rw [PySem.W.dataLt_tuple, toks_lexI]
theorem lexI_irrefl : ∀ xs : List Int, lexI xs xs = false
  | [] => rfl
  | x :: xs => by rw [lexI, if_pos rfl, lexI_irrefl xs]
theorem lexI_trans : ∀ {xs ys zs : List Int}, lexI xs ys = true → lexI ys zs = true → lexI xs zs = true
  | [], [], _, h, _ => by simp [lexI] at h
  | [], _ :: _, [], _, h => by simp [lexI] at h
  | [], _ :: _, _ :: _, _, _ => rfl
  | _ :: _, [], _, h, _ => by simp [lexI] at h
  | _ :: _, _ :: _, [], _, h => by simp [lexI] at h
  | x :: xs, y :: ys, z :: zs, h, k => by
    rw [lexI] at h k ⊢
    by_cases h1 : x = y
    · rw [if_pos h1] at h
      by_cases h2 : y = z
      · rw [if_pos h2] at k
        rw [if_pos (h1.trans h2)]
        exact lexI_trans h k
      · rw [if_neg h2] at k
        rw [if_neg (by rw [h1]; exact h2), h1]
        exact k
    · rw [if_neg h1] at h
      have h' := of_decide_eq_true h
      by_cases h2 : y = z
      · rw [if_neg (by rw [← h2]; exact h1), ← h2]
        exact h
      · rw [if_neg h2] at k
        have k' := of_decide_eq_true k
        rw [if_neg (by omega)]
        exact decide_eq_true (by omega)
theorem lexI_tri : ∀ {xs ys : List Int}, lexI xs ys = false → lexI ys xs = false → xs = ys
  | [], [], _, _ => rfl
  | [], _ :: _, h, _ => by simp [lexI] at h
  | _ :: _, [], _, h => by simp [lexI] at h
  | x :: xs, y :: ys, h, k => by
    rw [lexI] at h k
    by_cases h1 : x = y
    · rw [if_pos h1] at h
      rw [if_pos h1.symm] at k
      rw [h1, lexI_tri h k]
    · rw [if_neg h1] at h
      rw [if_neg (fun z => h1 z.symm)] at k
      have h' := of_decide_eq_false h
      have k' := of_decide_eq_false k
      omega
theorem lexI_asymm {xs ys : List Int} (h : lexI xs ys = true) : lexI ys xs = false := by
  cases k : lexI ys xs with
  | false => rfl
  | true =>
    have := lexI_trans h k
    rw [lexI_irrefl] at this
    cases this
def leI (a b : List Int) : Bool := !lexI b a
theorem leI_trans (a b c : List Int) (h : leI a b = true) (k : leI b c = true) : leI a c = true := by
  unfold leI at *
  simp only [Bool.not_eq_true'] at *
  cases e : lexI c a with
  | false => rfl
  | true =>
    cases f : lexI a b with
    | true => rw [lexI_trans e f] at k; cases k
    | false =>
      have := lexI_tri f h
      subst this
      rw [e] at k; cases k
theorem leI_total (a b : List Int) : (leI a b || leI b a) = true := by
  unfold leI
  cases e : lexI b a with
  | false => rfl
  | true => rw [lexI_asymm e]; rfl
theorem leI_anti {a b : List Int} (h : leI a b = true) (k : leI b a = true) : a = b := by
  unfold leI at *
  simp only [Bool.not_eq_true'] at *
  exact lexI_tri k h
theorem dLe_tupI (a b : List Int) : dLe (tupI a) (tupI b) = leI a b := by
  unfold dLe PySem.W.dataLe leI
  rw [← dataLt_tupI]
  rfl
theorem sorted_one {α : Type} {le : α → α → Bool} (anti : ∀ a b, le a b = true → le b a = true → a = b) : ∀ {l m : List α}, l.Perm m → l.Pairwise (fun a b => le a b = true) → m.Pairwise (fun a b => le a b = true) → l = m
  | [], m, p, _, _ => by rw [List.nil_perm.mp p]
  | a :: l, [], p, _, _ => by simpa using p.length_eq
  | a :: l, b :: m, p, h, k => by
    have ha : a ∈ b :: m := p.mem_iff.mp List.mem_cons_self
    have hb : b ∈ a :: l := p.mem_iff.mpr List.mem_cons_self
    have e : a = b := by
      rcases List.mem_cons.mp ha with q | q
      · exact q
      · rcases List.mem_cons.mp hb with r | r
        · exact r.symm
        · exact anti a b ((List.pairwise_cons.mp h).1 b r) ((List.pairwise_cons.mp k).1 a q)
    subst e
    rw [sorted_one anti ((List.perm_cons a).mp p) (List.pairwise_cons.mp h).2 (List.pairwise_cons.mp k).2]
/-- the tuples of xs in order, each once -/
def setI (xs : List (List Int)) : List (List Int) := xs.eraseDups.mergeSort leI
def sortSetD : D → Option D
  | .list ds => match itsD ds with
    | some ns => if ds.length < 64 ∧ srtOk ds = true then some (.list ((setI ns).map tupI)) else none
    | none => none
  | _ => none
theorem isIT_eq {d : D} {ns : List Int} (h : isIT d = some ns) : d = tupI ns := by
  unfold isIT at h
  split at h
  · rename_i ds
    have : ∀ (ds : List D) (ns : List Int), intsD ds = some ns → ds = ns.map PyData.int := by
      intro ds
      induction ds with
      | nil => intro ns e; unfold intsD at e; cases e; rfl
      | cons d ds ih =>
        intro ns e
        unfold intsD at e
        split at e
        · rename_i h1; cases h1
        · rename_i h1
          cases h1
          obtain ⟨r, e1, e2⟩ := Option.map_eq_some_iff.mp e
          subst e2
          rw [List.map_cons, ih r e1]
        · cases e
    rw [this ds ns h]
  · cases h
theorem itsD_eq : ∀ {ds : List D} {ns : List (List Int)}, itsD ds = some ns → ds = ns.map tupI
  | [], _, h => by unfold itsD at h; cases h; rfl
  | d :: r, _, h => by
    unfold itsD at h
    obtain ⟨n, e1, e2⟩ := Option.bind_eq_some_iff.mp h
    obtain ⟨l, e3, e4⟩ := Option.map_eq_some_iff.mp e2
    subst e4
    rw [List.map_cons, isIT_eq e1, itsD_eq e3]
end DP
set_option Elab.async false
set_option linter.all false
set_option maxRecDepth 100000
/-! DP, part 17: sorted(set(xs)), the walk. -/
namespace DP
open PySem PySem.Spec PyProof.Rows L2

theorem reads_tupI {P : Program} {w : World} {h : Heap} {k : List Int} {b : Addr} (x : IsT P w h k b) : ∃ as, Reads h (.ref b) (tupI k) as ∧ as = [] := by
  obtain ⟨o, items, n, ho, hc, hd, hi⟩ := x
  have all : ∀ {k : List Int} {vs : List Value}, ItemsAre (intKind P w) k vs → ReadsAll h vs (k.map PyData.int) [] := by
    intro k vs hi
    induction hi with
    | nil => exact .nil
    | @cons k0 v ks vs h1 _ ih =>
      obtain ⟨t, rfl⟩ := Value.isInt_shape h1
      exact .cons (as := []) (bs := []) (.int k0 t) ih
  exact ⟨[], .tuple ho hc hd (all hi), rfl⟩
/-- sorted(s) of a set of tuples of ints -/
def rSortedSet (K : PySem.W.Frag) (P : Program) (w : World) : List V → Hp → VK → Prop := fun vs H Q => ∃ (a : Addr) (L : List (Addr × List Int)), vs = [V.ref a] ∧ H a = some (SetTO P w a L) ∧ (∀ p ∈ L, SqT K H p.1 (p.2.map V.int)) ∧ srtOk (L.map fun p => tupI p.2) = true ∧
  ∀ (L' : List (Addr × List Int)) (p : Addr), L'.Perm L → (L'.map (·.2)).Nodup → (L'.map (·.2)).Pairwise (fun q r => leI q r = true) → H p = none → Q (.ref p) (upd H p (.lst (L'.map fun q => V.ref q.1)))
section
variable {X : Cx} {Wx : WX}
theorem srtOk_perm {xs ys : List D} (p : ∀ x ∈ ys, x ∈ xs) (h : srtOk xs = true) : srtOk ys = true := by
  simp only [srtOk, Bool.and_eq_true, Bool.or_eq_true, List.all_eq_true] at h ⊢
  exact ⟨⟨fun x hx y hy => h.1.1 x (p x hx) y (p y hy), h.1.2.imp (fun q x hx => q x (p x hx)) fun q x hx => q x (p x hx)⟩, fun x hx => h.2 x (p x hx)⟩
theorem cr_sortedSetT (hc : X.calm = true) (hu : X.A.units + 64 < cLine) : CallR X (.builtin "sorted") (rSortedSet X.K X.prog X.w) := by
  intro pins s σ H vs us Q I r h
  obtain ⟨a, L, rfl, ha, hk, ok, q⟩ := h
  have R0 : SetT0 X.prog X.w s.heap a L := (I.hok a _ ha).1
  obtain ⟨es, ep, t, R⟩ := R0.full fun p hp => I.isT (hk p hp)
  rw [Vals.ref1 r]
  obtain ⟨o, ho, hex, hd⟩ := R.ob
  have hsz := R.size
  have hfew := R.few
  refine Calls.call_function_entry kind_sorted plain_sorted entry_sorted (args_sorted1 _) ?_
  unfold Builtin.«sorted»
  refine wpAny_bind (m := checkCount "sorted" 1 1 _) (wpAny_pure ?_)
  refine wpAny_bind (collect_set (A := X.A.in1) (I.ok.hd hc) ⟨o, ho, hex.1, hd⟩ R.fits (by unfold scanBound; omega) R.tab.ris R.led fun s1 vs k1 hz g1 o1 pm => ?_)
  have hes : es.toList.map (·.2) = L.map fun q => Value.ref q.1 := by
    rw [R.rows]
    unfold rowsOf
    rw [List.map_map] <;> rfl
  rw [hes] at pm
  -- what was collected: the rows, turned somehow
  have ord : ∀ vs : List Value, (∀ v ∈ vs, ∃ q ∈ L, v = Value.ref q.1) → ∃ L1 : List (Addr × List Int), vs = L1.map (fun q => Value.ref q.1) ∧ ∀ q ∈ L1, q ∈ L := by
    intro vs
    induction vs with
    | nil => exact fun _ => ⟨[], rfl, fun q hq => nomatch hq⟩
    | cons v vs ih =>
      intro hv
      obtain ⟨q, hq, rfl⟩ := hv v List.mem_cons_self
      obtain ⟨L1, rfl, hs⟩ := ih fun u hu => hv u (List.mem_cons_of_mem _ hu)
      exact ⟨q :: L1, rfl, fun r hr => (List.mem_cons.mp hr).elim (fun z => z ▸ hq) (hs r)⟩
  have one : ∀ q ∈ L, ∀ r ∈ L, q.1 = r.1 → q = r := fun q hq r hr e => by
    have a1 := R.tup q hq
    have a2 := R.tup r hr
    rw [e] at a1
    exact Prod.ext e (a1.inj a2)
  have nL : L.Nodup := nodup_of_map R.nd
  have perm_of : ∀ L1 : List (Addr × List Int), (∀ q ∈ L1, q ∈ L) → (L1.map (fun q => Value.ref q.1)).Perm (L.map fun q => Value.ref q.1) → L1.Perm L := by
    intro L1 hs pm1
    have nref : (L.map fun q => Value.ref q.1).Nodup := by
      refine List.pairwise_map.mpr (List.Pairwise.imp_of_mem (fun {q r} hq hr hne e => ?_) nL)
      injection e with e
      exact hne (one q hq r hr e)
    refine (List.perm_ext_iff_of_nodup (nodup_of_map (pm1.nodup_iff.mpr nref)) nL).mpr fun q => ⟨hs q, fun hq => ?_⟩
    obtain ⟨r, hr, e⟩ := List.mem_map.mp (pm1.mem_iff.mpr (List.mem_map.mpr ⟨q, hq, rfl⟩))
    injection e with e
    rw [← one r (hs r hr) q hq e]
    exact hr
  obtain ⟨L1, rfl, hs1⟩ := ord vs fun v hv => by
    obtain ⟨q, hq, e⟩ := List.mem_map.mp (pm.mem_iff.mp hv)
    exact ⟨q, hq, e.symm⟩
  have p1 : L1.Perm L := perm_of L1 hs1 pm
  have hl1 : L1.length < 64 := by rw [p1.length_eq]; exact hfew
  refine wpAny_bind (wpAny_newList ?_ (by rw [List.length_map, sizeLine_eq]; omega))
  have hoL : (s1.heap.push (seqObj "list" (L1.map fun q => Value.ref q.1).toArray 0)).get? s1.heap.objs.size = some (seqObj "list" (L1.map fun q => Value.ref q.1).toArray 0) := Heap.get?_push_size _ rfl
  have ok1 : srtOk (L1.map fun p => tupI p.2) = true := srtOk_perm (fun x hx => by
    obtain ⟨q, hq, rfl⟩ := List.mem_map.mp hx
    exact List.mem_map.mpr ⟨q, hs1 q hq, rfl⟩) ok
  have each : ∀ L2 : List (Addr × List Int), (∀ q ∈ L2, q ∈ L) → PySem.W.EachIs (fun (v : Value) (b : Addr × List Int) => v = .ref b.1) (L2.map fun q => Value.ref q.1) L2 ∧
      PySem.W.EachIs (fun v b => ∃ as, Reads (s1.heap.push (seqObj "list" (L1.map fun q => Value.ref q.1).toArray 0)) v (tupI b.2) as ∧ s1.heap.objs.size ∉ as) (L2.map fun q => Value.ref q.1) L2 := by
    intro L2
    induction L2 with
    | nil => exact fun _ => ⟨.nil, .nil⟩
    | cons q L2 ih =>
      intro hq
      obtain ⟨a1, a2⟩ := ih fun r hr => hq r (List.mem_cons_of_mem _ hr)
      obtain ⟨as, ra, rfl⟩ := reads_tupI (P := X.prog) (w := X.w) (isT_keep (h' := s1.heap.push (seqObj "list" (L1.map fun q => Value.ref q.1).toArray 0)) (R.tup q (hq q List.mem_cons_self)) fun b u e => Heap.get?_push_of_some _ (k1 b u e))
      exact ⟨.cons rfl a1, .cons ⟨[], ra, fun z => nomatch z⟩ a2⟩
  obtain ⟨ea, eb⟩ := each L1 hs1
  have al : PySem.W.AllAlike (L1.map fun p => tupI p.2) := by
    have := srtOk_alike ok1
    rwa [List.map_id] at this
  have so : PySem.W.Sortable (L1.map fun p => tupI p.2) := by
    have := srtOk_sortable ok1
    rwa [List.map_id] at this
  refine wpAny_bind (wpAny_holding (PySem.W.list_sort_data (s := { s1 with heap := s1.heap.push (seqObj "list" (L1.map fun q => Value.ref q.1).toArray 0) }) (bs := L1) (enc := fun p => tupI p.2) (R := fun v b => v = .ref b.1) hoL ea eb al so
    (by rw [sizeLine_eq]; omega) (fun b hb => ?_) fun out hl he => ?_))
  · have h60 := srtOk_depth ok1 _ (List.mem_map.mpr ⟨b, hb, rfl⟩)
    show X.A.units + 1 + 1 + (tupI b.2).depth < cLine
    omega
  · have eo : out = (L1.mergeSort (PySem.W.dataLe false fun p => tupI p.2)).map fun q => Value.ref q.1 := by
      have : ∀ {vs : List Value} {L2 : List (Addr × List Int)}, PySem.W.EachIs (fun (v : Value) (b : Addr × List Int) => v = .ref b.1) vs L2 → vs = L2.map fun q => Value.ref q.1 := by
        intro vs L2 h
        induction h with
        | nil => rfl
        | cons e _ ih => rw [List.map_cons, ← ih, e]
      exact this he
    subst eo
    obtain ⟨c, hcc⟩ := sortedHeap_at (vs := L1.map fun q => Value.ref q.1) (out := ((L1.mergeSort (PySem.W.dataLe false fun p => tupI p.2)).map fun q => Value.ref q.1).toArray) hoL
    have hp : H s1.heap.objs.size = none := I.hok.fresh hz
    have pm' : (L1.mergeSort (PySem.W.dataLe false fun p => tupI p.2)).Perm L := (List.mergeSort_perm _ _).trans p1
    have srt : (L1.mergeSort (PySem.W.dataLe false fun p => tupI p.2)).Pairwise fun q r => PySem.W.dataLe false (fun p : Addr × List Int => tupI p.2) q r = true := by
      have e : ∀ q r : Addr × List Int, PySem.W.dataLe false (fun p => tupI p.2) q r = leI q.2 r.2 := fun q r => dLe_tupI q.2 r.2
      refine List.pairwise_mergeSort (fun a b c h k => ?_) (fun a b => ?_) _
      · rw [e] at h k ⊢; exact leI_trans _ _ _ h k
      · rw [e, e]; exact leI_total _ _
    have keep : ∀ b u, s.heap.get? b = some u → (sortedHeap (s1.heap.push (seqObj "list" (L1.map fun q => Value.ref q.1).toArray 0)) s1.heap.objs.size (L1.map fun q => Value.ref q.1) ((L1.mergeSort (PySem.W.dataLe false fun p => tupI p.2)).map fun q => Value.ref q.1).toArray).get? b = some u := fun b u e => by
      have q := k1 b u e
      have hlt := Heap.lt_size q
      rw [sortedHeap_old (Nat.ne_of_lt hlt) (by rw [size_push']; exact Nat.lt_succ_of_lt hlt)]
      exact Heap.get?_push_of_some _ q
    have hlen : ((L1.mergeSort (PySem.W.dataLe false fun p => tupI p.2)).map fun q => V.ref q.1).length ≤ sizeLine := by rw [List.length_map, List.length_mergeSort, sizeLine_eq]; omega
    refine wpAny_pure ⟨_, rfl, ?_⟩
    have hv : Vals ((L1.mergeSort (PySem.W.dataLe false fun p => tupI p.2)).map fun q => V.ref q.1) ((L1.mergeSort (PySem.W.dataLe false fun p => tupI p.2)).map fun q => Value.ref q.1) := vals_of_refs _
    have J := I.call (H' := upd H s1.heap.objs.size (.lst ((L1.mergeSort (PySem.W.dataLe false fun p => tupI p.2)).map fun q => V.ref q.1))) (g' := s1.gens) (t' := s1.toks) (d' := s1.drawn) (ch := []) (Un.laid keep hz hp) (I.hok.laid keep hz ⟨hlen, _, c, hv, hcc⟩) (by rw [g1]; exact I.bare) (fun _ z => nomatch z)
    have nd : ((L1.mergeSort (PySem.W.dataLe false fun p => tupI p.2)).map (·.2)).Nodup := (pm'.map (·.2)).nodup_iff.mpr R.nd
    have pw : ((L1.mergeSort (PySem.W.dataLe false fun p => tupI p.2)).map (·.2)).Pairwise (fun q r => leI q r = true) := List.pairwise_map.mpr (srt.imp fun {q r} z => by rw [← dLe_tupI]; exact z)
    have goal : EP X pins σ Q (.ref s1.heap.objs.size) { s with heap := sortedHeap (s1.heap.push (seqObj "list" (L1.map fun q => Value.ref q.1).toArray 0)) s1.heap.objs.size (L1.map fun q => Value.ref q.1) ((L1.mergeSort (PySem.W.dataLe false fun p => tupI p.2)).map fun q => Value.ref q.1).toArray, gens := s1.gens, drawn := s1.drawn, toks := s1.toks } :=
      ⟨.ref s1.heap.objs.size, _, J, rfl, q _ _ pm' nd pw hp⟩
    have eo : s1.os = s.os := o1
    cases s1
    cases s
    cases eo
    exact goal
theorem nodup_dups {α : Type} [BEq α] [LawfulBEq α] : ∀ (n : Nat) (xs : List α), xs.length ≤ n → xs.eraseDups.Nodup
  | _, [], _ => by simp
  | 0, x :: xs, h => by simp at h
  | n + 1, x :: xs, h => by
    rw [List.eraseDups_cons, List.nodup_cons]
    refine ⟨fun z => ?_, nodup_dups n _ (Nat.le_trans (List.length_filter_le _ _) (by simpa using h))⟩
    have := List.mem_eraseDups.mp z
    simp at this
theorem perm_dups {xs ys : List (List Int)} (n : ys.Nodup) (h1 : ∀ x ∈ ys, x ∈ xs) (h2 : ∀ x ∈ xs, x ∈ ys) : ys.Perm xs.eraseDups :=
  (List.perm_ext_iff_of_nodup n (nodup_dups _ xs (Nat.le_refl _))).mpr fun x => by rw [List.mem_eraseDups]; exact ⟨h1 x, h2 x⟩
def xSortSet (f : XF) : XF := x1 sortSetD f
theorem en_sortSet {e : Expr} {f : XF} {p p2 q pos : Pos} (hc : X.calm = true) (hu : X.A.units + 64 < cLine) (hg : Gl X "sorted") (hm : X.mg "sorted" = none) (hg2 : Gl X "set") (hm2 : X.mg "set" = none) (he : EX X Wx e f)
    (hs : starEach [e] X.env = (false, eval e X.env) :: starEach [] X.env := by rfl)
    (hs2 : starEach [.Call (.Name "set" p2) [e] [] q] X.env = (false, eval (.Call (.Name "set" p2) [e] [] q) X.env) :: starEach [] X.env := by rfl) :
    EN X Wx (.Call (.Name "sorted" p) [.Call (.Name "set" p2) [e] [] q] [] pos) (xSortSet f) := by
  have hset : PE X (.Call (.Name "set" p2) [e] [] q) (tCB (rSetOfT X.K X.prog X.w) (tCons _ tNil)) := pe_callTy (cr_setOfT hc hu) hg2 hm2 (by rfl) (pa_cons he pa_nil hs) (by decide) (by decide) hs (by rfl)
  refine PE.wk (pe_callB (cr_sortedSetT hc hu) hg hm (by rfl) (pa_cons hset pa_nil hs2) (by decide) (by decide) hs2 (by rfl)) ?_
  rintro σ H Q ⟨ρ, W, env, A, S, h⟩
  refine tN_then S h fun d W1 H1 env1 A1 v S1 F1 r1 h1 => ?_
  simp only at h1
  unfold sortSetD at h1
  split at h1
  · rename_i d' ds
    simp only [Rep] at r1
    obtain ⟨a, vs, rfl, q1, l⟩ := r1
    split at h1
    · rename_i ns en
      split at h1
      · rename_i c
        have eds := itsD_eq en
        subst eds
        obtain ⟨ks, rfl, k1, k2⟩ : ∃ ks : List (Addr × List Int), vs = ks.map (fun p => V.ref p.1) ∧ ks.map (·.2) = ns ∧ ∀ p ∈ ks, SqT X.K W1 p.1 (p.2.map V.int) := by
          clear h1 en c q1
          induction ns generalizing vs with
          | nil => simp only [List.map_nil, RepL] at l; subst l; exact ⟨[], rfl, rfl, fun p hp => nomatch hp⟩
          | cons n ns ih =>
            simp only [List.map_cons, RepL, Rep] at l
            obtain ⟨v, r, rfl, ⟨b, us, rfl, hb, lb⟩, l2⟩ := l
            obtain ⟨ks, rfl, e1, e2⟩ := ih _ l2
            have eus : us = n.map V.int := by
              clear hb
              induction n generalizing us with
              | nil => simp only [List.map_nil, RepL] at lb; exact lb
              | cons i n ih2 =>
                simp only [List.map_cons, RepL, Rep] at lb
                obtain ⟨_, r2, rfl, rfl, lb2⟩ := lb
                rw [ih2 _ lb2, List.map_cons]
            subst eus
            exact ⟨(b, n) :: ks, rfl, by rw [List.map_cons, e1], fun p hp => (List.mem_cons.mp hp).elim (fun z => z ▸ hb) (e2 p)⟩
        refine ⟨a, ks, rfl, .of (S1.sub _ _ q1), fun p hp => Same.sqt S1.sub (k2 p hp), by rw [← k1, List.length_map, List.length_map] at c; exact c.1, fun b L hb hL1 hL2 => ?_⟩
        refine ⟨b, L, rfl, upd_same, fun p hp => ?_, srtOk_perm (fun x hx => ?_) c.2, fun L' p' pm nd pw hp' => ?_⟩
        · exact Same.sqt (fun c u z => by rw [upd_ne (ne_of_none z hb)]; exact z) (Same.sqt S1.sub (k2 p (hL1 p hp)))
        · obtain ⟨p, hp, rfl⟩ := List.mem_map.mp hx
          rw [← k1]
          exact List.mem_map.mpr ⟨p.2, List.mem_map.mpr ⟨p, hL1 p hp, rfl⟩, rfl⟩
        · have e : L'.map (·.2) = setI ns := by
            refine sorted_one (le := leI) (fun a b => leI_anti) ?_ pw (List.pairwise_mergeSort (fun a b c h k => leI_trans a b c h k) (fun a b => leI_total a b) _)
            refine List.Perm.trans ?_ (List.mergeSort_perm _ _).symm
            refine perm_dups nd (fun x hx => ?_) fun x hx => ?_
            · obtain ⟨p, hp, rfl⟩ := List.mem_map.mp hx
              rw [← k1]
              exact List.mem_map.mpr ⟨p, hL1 p (pm.mem_iff.mp hp), rfl⟩
            · rw [← k1] at hx
              obtain ⟨p, hp, rfl⟩ := List.mem_map.mp hx
              exact (pm.map (·.2)).mem_iff.mpr (hL2 p hp)
          have rl : RepL X.K X.w W1 ((setI ns).map tupI) (L'.map fun q => V.ref q.1) := by
            rw [← e]
            have : ∀ L2 : List (Addr × List Int), (∀ p ∈ L2, SqT X.K W1 p.1 (p.2.map V.int)) → RepL X.K X.w W1 ((L2.map (·.2)).map tupI) (L2.map fun q => V.ref q.1) := by
              intro L2
              induction L2 with
              | nil => exact fun _ => RepL.nil
              | cons p L2 ih =>
                intro hp
                refine RepL.cons ?_ (ih fun q hq => hp q (List.mem_cons_of_mem _ hq))
                simp only [Rep]
                refine ⟨p.1, _, rfl, hp p List.mem_cons_self, ?_⟩
                generalize p.2 = n
                induction n with
                | nil => exact RepL.nil
                | cons i n ih => exact RepL.cons rfl ih
            exact this L' fun p hp => k2 p (hL1 p (pm.mem_iff.mp hp))
          have h2 := onW_of S1 h1
          have e2 : Ex W1 H1 W1 (upd H1 b (SetTO X.prog X.w b L)) := Ex.junk S1.sub hb
          have n2 : H1 p' = none := by
            by_cases z : p' = b
            · rw [z]; exact hb
            · rwa [upd_ne z] at hp'
          have e3 := e2.trans (Ex.junk (p := p') (o := .lst (L'.map fun q => V.ref q.1)) e2.sub hp')
          exact h2 W1 _ p' e3 (S1.sub.free n2) ⟨_, upd_same, rl⟩ n2
      · exact h1.elim
    · exact h1.elim
  · exact h1.elim
end
end DP
set_option Elab.async false
set_option linter.all false
set_option maxRecDepth 100000
/-! DP, part 18: dicts made of pairs; d[k] = v; k in d; d.get; sorted(d.items()). -/
namespace DP
open PySem PySem.Spec PyProof.Rows L2

/-! ### d[k] = v on data -/
def dPut (kvs : List (D × D)) (k v : D) : List (D × D) := if kvs.any (kIs k) = true then kvs.map (fun p => if kIs k p = true then (p.1, v) else p) else kvs ++ [(k, v)]
theorem map_modify {α β : Type} [DecidableEq β] (f : α → β) (g : α → α) : ∀ {l : List α} {j : Nat} {p : α}, (l.map f).Nodup → l[j]? = some p → l.map (fun q => if decide (f q = f p) = true then g q else q) = l.modify j g
  | [], _, _, _, h => by simp at h
  | q :: l, 0, p, n, h => by
    cases h
    rw [List.map_cons, List.nodup_cons] at n
    rw [List.map_cons, if_pos (by simp), List.modify_zero_cons]
    congr 1
    conv => rhs; rw [← List.map_id l]
    refine List.map_congr_left fun r hr => ?_
    rw [if_neg (by
      simp only [decide_eq_true_eq]
      exact fun z => n.1 (by rw [← z]; exact List.mem_map.mpr ⟨r, hr, rfl⟩))]
    rfl
  | q :: l, j + 1, p, n, h => by
    rw [List.map_cons, List.nodup_cons] at n
    have h' : l[j]? = some p := by simpa using h
    rw [List.map_cons, List.modify_succ_cons, if_neg (by
      simp only [decide_eq_true_eq]
      exact fun z => n.1 (by rw [z]; exact List.mem_map.mpr ⟨p, List.mem_of_getElem? h', rfl⟩)), map_modify f g n.2 h']
theorem dPut_keys {kvs : List (D × D)} {k v : D} (n : (kvs.map fun p => keyD p.1).Nodup) : ((dPut kvs k v).map fun p => keyD p.1).Nodup := by
  unfold dPut
  split
  · rw [List.map_map]
    have : ((fun p : D × D => keyD p.1) ∘ fun p => if kIs k p = true then (p.1, v) else p) = fun p => keyD p.1 := by
      funext p
      simp only [Function.comp]
      split <;> rfl
    rw [this]
    exact n
  · rename_i c
    rw [List.map_append, List.nodup_append]
    refine ⟨n, by simp, ?_⟩
    intro a ha b hb
    simp only [List.map_cons, List.map_nil, List.mem_singleton] at hb
    subst hb
    rintro rfl
    obtain ⟨p, hp, e⟩ := List.mem_map.mp ha
    exact c (List.any_eq_true.mpr ⟨p, hp, decide_eq_true e⟩)
theorem dPut_len (kvs : List (D × D)) (k v : D) : (dPut kvs k v).length ≤ kvs.length + 1 := by
  unfold dPut
  split
  · rw [List.length_map]; omega
  · rw [List.length_append, List.length_singleton]; omega
section
variable {K : PySem.W.Frag} {w : World} {W : Hp}
theorem RepKV.snoc : ∀ {kvs : List (D × D)} {es : List DictEntry} {k v : D} {e : DictEntry}, RepKV K w W kvs es → (∃ kk, keyD k = some kk ∧ kk.depth ≤ 8 ∧ e.hash = kk.hash w) → (∃ x, RelV x e.key ∧ Rep K w W k x) → (∃ y, RelV y e.val ∧ Rep K w W v y) → RepKV K w W (kvs ++ [(k, v)]) (es ++ [e])
  | [], _, k, v, e, h, a, b, c => by
    simp only [RepKV] at h
    subst h
    simp only [List.nil_append, RepKV]
    exact ⟨e, [], rfl, a, b, c, rfl⟩
  | (k', d) :: r, _, k, v, e, h, a, b, c => by
    simp only [RepKV] at h
    obtain ⟨en, q, rfl, h1, h2, h3, h4⟩ := h
    simp only [List.cons_append, RepKV]
    exact ⟨en, q ++ [e], rfl, h1, h2, h3, RepKV.snoc h4 a b c⟩
theorem RepKV.modify : ∀ {kvs : List (D × D)} {es : List DictEntry} {j : Nat} {v : D} {y : V} {u : Value}, RepKV K w W kvs es → RelV y u → Rep K w W v y → RepKV K w W (kvs.modify j fun p => (p.1, v)) (es.modify j fun e => { e with val := u })
  | [], _, j, _, _, _, h, _, _ => by simp only [RepKV] at h; subst h; simp [RepKV]
  | (k, d) :: r, _, 0, v, y, u, h, a, b => by
    simp only [RepKV] at h
    obtain ⟨en, q, rfl, h1, h2, h3, h4⟩ := h
    simp only [List.modify_zero_cons, RepKV]
    exact ⟨_, q, rfl, h1, h2, ⟨y, a, b⟩, h4⟩
  | (k, d) :: r, _, j + 1, v, y, u, h, a, b => by
    simp only [RepKV] at h
    obtain ⟨en, q, rfl, h1, h2, h3, h4⟩ := h
    simp only [List.modify_succ_cons, RepKV]
    exact ⟨en, _, rfl, h1, h2, h3, RepKV.modify h4 a b⟩
/-- the entries behind d[k] = v show the data behind it -/
theorem RepKV.put {kvs : List (D × D)} {es : List DictEntry} {ks : List NestedKey} {k v : D} {kk : NestedKey} {r : Option Nat} {x y : V} {u z : Value} (h : RepKV K w W kvs es) (nd : (kvs.map fun p => keyD p.1).Nodup) (ek : kvs.map (fun p => keyD p.1) = ks.map some) (hk : keyD k = some kk) (dk : kk.depth ≤ 8) (hit : Hit ks kk r)
    (rx : RelV x u) (rk : Rep K w W k x) (ry : RelV y z) (rv : Rep K w W v y) : RepKV K w W (dPut kvs k v) (putE es r (kk.hash w) u z) := by
  cases r with
  | none =>
    unfold dPut putE
    rw [if_neg (by rw [(hit_none ek hk hit).2]; exact Bool.false_ne_true)]
    exact h.snoc ⟨kk, hk, dk, rfl⟩ ⟨x, rx, rk⟩ ⟨y, ry, rv⟩
  | some j =>
    obtain ⟨p, h1, h2, _, h4⟩ := hit_some ek nd hk hit
    unfold dPut putE
    rw [if_pos h4]
    have e : kvs.map (fun p => if kIs k p = true then (p.1, v) else p) = kvs.modify j fun p => (p.1, v) := by
      rw [← map_modify (fun p : D × D => keyD p.1) (fun p => (p.1, v)) nd h1]
      refine List.map_congr_left fun q _ => ?_
      unfold kIs
      rw [h2]
    rw [e]
    exact h.modify ry rv
theorem RepKV.ents' {h : Heap} (nest : ∀ d v u k, Rep K w W d v → RelV v u → keyD d = some k → NestedIs h k u) {kvs : List (D × D)} {es : Array DictEntry} (r : RepKV K w W kvs es.toList) (nd : (kvs.map fun p => keyD p.1).Nodup) :
    ∃ ks : List NestedKey, kvs.map (fun p => keyD p.1) = ks.map some ∧ Ents w h ks es := by
  obtain ⟨ks, e⟩ := r.keys
  refine ⟨ks, e, ?_, fun i en he => ?_, ?_⟩
  · have h1 := congrArg List.length e
    have h2 := r.len
    rw [Array.length_toList] at h2
    simp only [List.length_map] at h1
    omega
  · obtain ⟨k, v, q1, ⟨kk, q2, q3, q4⟩, ⟨x, q5, q6⟩, _⟩ := r.at (j := i) (e := en) (by rw [Array.getElem?_toList]; exact he)
    refine ⟨kk, ?_, nest _ _ _ _ q6 q5 q2, q3, q4⟩
    have := congrArg (fun l => l[i]?) e
    simp only [List.getElem?_map, q1, Option.map_some, q2] at this
    cases hk : ks[i]? with
    | none => rw [hk] at this; cases this
    | some z => rw [hk] at this; cases this; rfl
  · rw [e] at nd
    exact List.Pairwise.of_map some (fun a b h z => h (congrArg some z)) nd
theorem dicO_new {P : Program} {H : Hp} {h : Heap} {a : Addr} {es : Array DictEntry} {ep : Nat} (hs : (a == sysModules) = false) (hz : es.size ≤ sizeLine) (ho : h.get? a = some (dobj es ep)) : ObjOk P w H h a (dicO a es ep) :=
  ⟨⟨hs, hz, ho⟩, ⟨_, ho⟩, fun _ _ ⟨q1, q2, q3⟩ k => ⟨q1, q2, k _ q3⟩⟩
end

/-! ### dict(xs), xs a list of pairs -/
def pairD : D → Option (D × D)
  | .tuple [k, v] => if keyOk k = true then some (k, v) else none
  | _ => none
def pairsD : List D → Option (List (D × D))
  | [] => some []
  | d :: r => (pairD d).bind fun p => (pairsD r).map fun l => p :: l
def dMerge (kvs more : List (D × D)) : List (D × D) := more.foldl (fun acc p => dPut acc p.1 p.2) kvs
theorem dMerge_len : ∀ (more kvs : List (D × D)), (dMerge kvs more).length ≤ kvs.length + more.length
  | [], kvs => Nat.le_refl _
  | p :: r, kvs => by
    have h1 := dMerge_len r (dPut kvs p.1 p.2)
    have h2 := dPut_len kvs p.1 p.2
    show (dMerge (dPut kvs p.1 p.2) r).length ≤ _
    rw [List.length_cons]
    omega
section
variable {P : Program} {w : World} {A : Around} {E : Value → Shared → Prop} {K : PySem.W.Frag} {W : Hp}
/-- what is known of a row of pairs -/
def PairsAt (K : PySem.W.Frag) (w : World) (W : Hp) (h : Heap) (items : List Value) (ps : List (D × D)) : Prop :=
  ∀ (j : Nat) (p : D × D), ps[j]? = some p → ∃ (b : Addr) (u z : Value) (x y : V), items[j]? = some (.ref b) ∧ IsTup h b #[u, z] ∧ RelV x u ∧ Rep K w W p.1 x ∧ RelV y z ∧ Rep K w W p.2 y ∧ keyOk p.1 = true
theorem dset0 {s : Shared} {a : Addr} {es : Array DictEntry} {ep : Nat} {ks : List NestedKey} {k : NestedKey} {u v : Value} (N : Ents w s.heap ks es) (hu : A.units + 8 < cLine) (ho : s.heap.get? a = some (dobj es ep)) (hz : es.size ≤ sizeLine) (hk : NestedIs s.heap k u) (dk : k.depth ≤ 8) {Q : Unit → Shared → Prop}
    (h : ∀ h' es' ep' r t, Hit ks k r → h'.get? a = some (dobj es' ep') → Heap.SameBut a s.heap h' → es'.toList = putE es.toList r (k.hash w) u v → Q () { s with heap := h', toks := t }) :
    wpAny (model P w) A (dictSet a u v) Q E s := by
  unfold dictSet
  try with_reducible refine wpAny_holding ?_
  refine wpAny_bind (pyHash_key k u _ s _ hk (by omega) ?_)
  exact dSetHashed (s := { s with toks := s.toks + k.draws }) N hu ho hz hk dk fun h' es' ep' r hr e1 e2 e3 => h h' es' ep' r _ hr e1 e2 e3
theorem pairs_loop {R : Result → Shared → Prop} {S I l : Addr} {items : Array Value} {res : Value} {h0 : Heap} (hh : A.handled = none) (hu : A.units + 16 < cLine) (hlI : l ≠ I) (hSI : S ≠ I) (hSl : S ≠ l) (hsz0 : items.size ≤ sizeLine) (hS0 : h0.get? S = none) (hI0 : h0.get? I = none)
    (nest : ∀ d v u k, Rep K w W d v → RelV v u → keyD d = some k → NestedIs h0 k u) :
    ∀ (rest : List (D × D)) (i : Nat) (acc : List (D × D)) (es : Array DictEntry) (ep : Nat) (ix : Int) (t : Tok) (s : Shared), items.size = i + rest.length → acc.length ≤ i → PairsAt K w W h0 (items.toList.drop i) rest →
      (∀ b o, h0.get? b = some o → s.heap.get? b = some o) → s.heap.IsListIter I l i → s.heap.IsList l items → s.heap.get? S = some (dobj es ep) → RepKV K w W acc es.toList → (acc.map fun p => keyD p.1).Nodup →
      (∀ h' tk es' ep', (∀ b o, h0.get? b = some o → h'.get? b = some o) → h'.get? S = some (dobj es' ep') → RepKV K w W (dMerge acc rest) es'.toList → ((dMerge acc rest).map fun p => keyD p.1).Nodup → R (.ok (.ret res)) { s with heap := h', toks := tk }) →
      codeAny (model P w) A (.builtin "dict.update.loop" ⟨[.ref S, .ref I, .int ix t, res], []⟩) R s
  | [], i, acc, es, ep, ix, t, s, hsz, hla, hp, hk, hit, hl, hS, hr, hn, hR => by
    refine codeAny_builtin ud_entry ?_
    rw [Around.under_plainId ud_plain _]
    show wpAny _ A.in1 (pyNext (.ref I) >>= _) _ _ s
    refine wpAny_bind (wpAny_pyNext_list_end (A := A.in1) hh hit hl (Array.getElem?_eq_none (by rw [hsz]; simp)) fun h' he => ?_)
    show wpAny _ A.in1 (Builtin.Dict.addKeywords S [] >>= _) _ _ _
    refine wpAny_bind (wpAny_pure (wpAny_pure ?_))
    exact hR h' s.toks es ep (fun b o e => he b o (fun z => by rw [z, hI0] at e; cases e) (hk b o e)) (he S _ hSI hS) hr hn
  | q :: rest, i, acc, es, ep, ix, t, s, hsz, hla, hp, hk, hit, hl, hS, hr, hn, hR => by
    obtain ⟨b, u, z, x, y, hb, ht, rx, rk, ry, rv, ok⟩ := hp 0 q rfl
    obtain ⟨kk, k1, k2⟩ := keyOk_iff ok
    rw [List.length_cons] at hsz
    have hb' : items[i]? = some (.ref b) := by
      rw [← Array.getElem?_toList]
      simpa using hb
    refine codeAny_builtin ud_entry ?_
    rw [Around.under_plainId ud_plain _]
    show wpAny _ A.in1 (pyNext (.ref I) >>= _) _ _ s
    refine wpAny_bind (wpAny_pyNext_list_item (x := .ref b) hit hl hb' fun h1 hit1 hs1 => ?_)
    have k1' : ∀ c o, h0.get? c = some o → h1.get? c = some o := fun c o e => hs1.extBut c o (fun z => by rw [z, hI0] at e; cases e) (hk c o e)
    have ht1 : IsTup h1 b #[u, z] := ht.keeps k1'
    obtain ⟨o, ho, hc, n, hd⟩ := id ht1
    show wpAny _ A.in1 (holding [Value.ref b] _ >>= _) _ _ _
    refine wpAny_bind (wpAny_holding ?_)
    refine wpAny_bind (wpAny_tryCatch ?_)
    unfold Builtin.Dict.pairItems
    refine wpAny_bind (wpAny_typeOf (T := "tuple") ⟨o, ho, hc⟩ ?_)
    rw [if_pos (by first | decide | rfl | simp)]
    refine wpAny_bind (wpAny_seqItems ho hd (wpAny_pure ?_))
    show wpAny _ A.in1 (holding [u, z] (dictSet S u z)) _ _ _
    have nest1 : ∀ d v u k, Rep K w W d v → RelV v u → keyD d = some k → NestedIs h1 k u := fun d v u k a c e => NestedIs.at (fun c o _ _ e _ => k1' c o e) _ _ (nest d v u k a c e)
    obtain ⟨ks, ek, N⟩ := RepKV.ents' nest1 hr hn
    have hsz1 : es.size ≤ sizeLine := by
      have := hr.len
      rw [Array.length_toList] at this
      omega
    have hu1 : A.in1.units + 8 < cLine := by simp only [Around.in1_units]; omega
    refine wpAny_holding (dset0 (s := { s with heap := h1 }) N hu1 (hs1.extBut S _ hSI hS) hsz1 (nest1 _ _ _ _ rk rx k1) k2 fun h2 es2 ep2 r t2 hhit e1 e2 e3 => ?_)
    have k2' : ∀ c o, h0.get? c = some o → h2.get? c = some o := fun c o e => (e2.2 c (fun z => by rw [z, hS0] at e; cases e)).trans (k1' c o e)
    refine wpAny_pure ⟨plainId_quiet ud_plain _, pairs_loop hh hu hlI hSI hSl hsz0 hS0 hI0 nest rest (i + 1) (dPut acc q.1 q.2) es2 ep2 (ix + 1) 0 _ (by omega) (by have := dPut_len acc q.1 q.2; omega) (fun j p e => ?_) k2' ?_ ?_ e1 ?_ (dPut_keys hn) fun h' tk es' ep' a1 a2 a3 a4 => hR h' tk es' ep' a1 a2 a3 a4⟩
    · obtain ⟨b2, u2, z2, x2, y2, hb2, more⟩ := hp (j + 1) p (by simpa using e)
      refine ⟨b2, u2, z2, x2, y2, ?_, more⟩
      rw [List.getElem?_drop] at hb2 ⊢
      rw [show i + 1 + j = i + (j + 1) by omega]
      exact hb2
    · exact hit1.at fun o' e => (e2.2 I (Ne.symm hSI)).trans e
    · exact (hl.extBut hs1.extBut hlI).extBut e2.extBut (Ne.symm hSl)
    · rw [e3]
      exact hr.put hn ek k1 k2 hhit rx rk ry rv
theorem ddict {s : Shared} {l : Addr} {ol : Obj} {items : Array Value} {n : Nat} {ps : List (D × D)} {Q : Value → Shared → Prop} (hh : A.handled = none) (hu : A.units + 17 < cLine) (hl : s.heap.get? l = some ol) (hc : ol.cls = .type "list") (hd : ol.dict = none)
    (hdat : ol.data = .seq items n) (hsz : items.size = ps.length) (hln : items.size ≤ sizeLine) (hp : PairsAt K w W s.heap items.toList ps) (nest : ∀ d v u k, Rep K w W d v → RelV v u → keyD d = some k → NestedIs s.heap k u)
    (h : ∀ h' tk es ep, (∀ b o, s.heap.get? b = some o → h'.get? b = some o) → h'.get? s.heap.objs.size = some (dobj es ep) → RepKV K w W (dMerge [] ps) es.toList → ((dMerge [] ps).map fun p => keyD p.1).Nodup → Q (.ref s.heap.objs.size) { s with heap := h', toks := tk }) :
    wpAny (model P w) A (call (.type "dict") [.ref l]) Q E s := by
  refine callType_codes (Q₁ := fun obj s₁ => obj = .ref s.heap.objs.size ∧ s₁ = { s with heap := s.heap.push (dobj #[] 0) }) PySem.F.kt_called_dict (PySem.F.kt_typeCall_dict_1 _) PySem.F.entry_dict_init (kt_code_dict_new _ ⟨rfl, rfl⟩) ?_
  rintro obj s₁ ⟨rfl, rfl⟩
  have hS0 : (s.heap.push (dobj #[] 0)).get? s.heap.objs.size = some (dobj #[] 0) := Heap.get?_push_size _ rfl
  have T : Shared.TypeIs { s with heap := s.heap.push (dobj #[] 0) } (.ref s.heap.objs.size) "dict" := ⟨_, hS0, rfl⟩
  have k0 : ∀ b o, s.heap.get? b = some o → (s.heap.push (dobj #[] 0)).get? b = some o := fun b o e => Heap.get?_push_of_some _ e
  have out : ∀ b, s.heap.objs.size ≤ b → s.heap.get? b = none := fun b hb => by
    cases q : s.heap.get? b with
    | none => rfl
    | some o => exact absurd (Nat.lt_of_lt_of_le (Heap.lt_size q) hb) (Nat.lt_irrefl _)
  refine ⟨T, PySem.F.args_dict_init_2 _ _, ?_⟩
  unfold Builtin.«dict.__init__»
  refine wpAny_bind ?_
  unfold Builtin.Dict.selfAndRest
  refine wpAny_bind (wpAny_notOrdered_dict T ?_)
  show wpAny _ _ (pure (s.heap.objs.size, [Value.ref l])) _ _ _
  refine wpAny_pure ?_
  show wpAny _ _ (Builtin.Dict.updateFrom "dict.__init__" s.heap.objs.size (.ref l) [] .none) _ _ _
  unfold Builtin.Dict.updateFrom
  refine wpAny_bind (wpAny_typeOf (T := "list") ⟨ol, k0 _ _ hl, hc⟩ ?_)
  rw [if_pos (by first | decide | rfl | simp)]
  refine wpAny_bind (miss_list (k0 _ _ hl) hc hdat hd hh fun h1 tk1 hk1 => ?_)
  rw [if_pos (show (none : Option Value).isNone = true from rfl)]
  refine wpAny_bind (wpAny_rule ?_)
  have hl1 : h1.IsList l items := ⟨ol, hk1 _ _ (k0 _ _ hl), hc, n, hdat⟩
  have hS1 : s.heap.objs.size < h1.objs.size := Heap.lt_size (hk1 _ _ hS0)
  refine wpAny_bind (wpAny_pyIter_list hl1 ?_)
  have k2 : ∀ b o, h1.get? b = some o → (h1.push { cls := .type "list_iterator", data := .fields #[.ref l, .int 0 0] }).get? b = some o := fun b o e => Heap.get?_push_of_some _ e
  have hlt : l < s.heap.objs.size := Heap.lt_size hl
  have key := pairs_loop (P := P) (w := w) (A := A.in1) (K := K) (W := W) (R := wants (fun r s₂ => r = .none ∧ Q (.ref s.heap.objs.size) s₂) E) (S := s.heap.objs.size) (I := h1.objs.size) (l := l) (items := items) (res := Value.none) (h0 := s.heap) hh (by simp only [Around.in1_units]; omega)
    (Nat.ne_of_lt (Nat.lt_trans hlt hS1)) (Nat.ne_of_lt hS1) (Nat.ne_of_gt hlt) hln (out _ (Nat.le_refl _)) (out _ (Nat.le_of_lt hS1)) nest ps 0 [] #[] 0 0 0
    { s with heap := h1.push { cls := .type "list_iterator", data := .fields #[.ref l, .int 0 0] }, toks := tk1 } (by rw [hsz, Nat.zero_add]) (Nat.le_refl _) (by simpa using hp) (fun b o e => k2 _ _ (hk1 _ _ (k0 _ _ e)))
    ⟨_, Heap.get?_push_size _ rfl, rfl, rfl⟩ (hl1.at fun o e => k2 _ _ e) (k2 _ _ (hk1 _ _ hS0)) (by simp [RepKV]) (by simp)
    (fun h' tk es ep a1 a2 a3 a4 => ⟨rfl, h h' tk es ep a1 a2 a3 a4⟩)
  first
    | exact wpAny_pure ⟨plainId_quiet ud_plain _, key⟩
    | exact wpAny_bind (wpAny_pure (wpAny_pure ⟨plainId_quiet ud_plain _, key⟩))
end
def dictD : List D → Option D
  | [.list ds] => (pairsD ds).map fun ps => .dict (dMerge [] ps)
  | _ => none
theorem pairsD_at {K : PySem.W.Frag} {w : World} {W : Hp} : ∀ {ds : List D} {ps : List (D × D)} {vs : List V}, pairsD ds = some ps → RepL K w W ds vs → ps.length = ds.length ∧ ∀ (j : Nat) (p : D × D), ps[j]? = some p → ∃ (a : Addr) (x y : V), vs[j]? = some (.ref a) ∧ SqT K W a [x, y] ∧ Rep K w W p.1 x ∧ Rep K w W p.2 y ∧ keyOk p.1 = true
  | [], _, _, e, _ => by unfold pairsD at e; cases e; exact ⟨rfl, fun j p h => by simp at h⟩
  | d :: r, _, _, e, h => by
    unfold pairsD at e
    obtain ⟨p, e1, e2⟩ := Option.bind_eq_some_iff.mp e
    obtain ⟨l, e3, e4⟩ := Option.map_eq_some_iff.mp e2
    subst e4
    simp only [RepL] at h
    obtain ⟨v, q, rfl, h1, h2⟩ := h
    obtain ⟨f1, f2⟩ := pairsD_at e3 h2
    refine ⟨by simp [f1], fun j z hz => ?_⟩
    cases j with
    | succ j =>
      obtain ⟨a, x, y, g⟩ := f2 j z (by simpa using hz)
      exact ⟨a, x, y, by simpa using g.1, g.2⟩
    | zero =>
      cases hz
      unfold pairD at e1
      split at e1
      · split at e1
        · rename_i k v c
          cases e1
          simp only [Rep, RepL] at h1
          obtain ⟨a, us, rfl, q1, x, _, rfl, r1, y, _, rfl, r2, rfl⟩ := h1
          exact ⟨a, x, y, rfl, q1, r1, r2, c⟩
        · cases e1
      · cases e1
section
variable {X : Cx} {Wx : WX}
theorem onW.dic {W H : Hp} {Q : VK} {kvs : List (D × D)} {es : Array DictEntry} {ep : Nat} {p : Addr} (h : onW X.K X.w W H (some (.dict kvs)) Q) (s : Same W H) (r : RepKV X.K X.w W kvs es.toList) (nd : (kvs.map fun p => keyD p.1).Nodup) (n : H p = none) : Q (.ref p) (upd H p (dicO p es ep)) :=
  h W _ p (Ex.junk s n) (s.free n) ⟨es, ep, upd_same, r, nd⟩ n
theorem cr_dictD (hc : X.calm = true) (hu : X.A.units + 64 < cLine) : CallR X (.type "dict") (tWn X.K X.w dictD) := by
  intro pins s σ H xs us Q I r h
  obtain ⟨W, ds, sm, rl, h⟩ := h
  unfold dictD at h
  split at h
  · rename_i ds
    simp only [RepL, Rep] at rl
    obtain ⟨v, _, rfl, ⟨a, vs, rfl, q, l⟩, rfl⟩ := rl
    obtain ⟨u, rfl, rx⟩ := vals1 r
    cases rx
    cases ep : pairsD ds with
    | none => rw [ep] at h; exact h.elim
    | some ps =>
      rw [ep] at h
      obtain ⟨f1, f2⟩ := pairsD_at ep l
      obtain ⟨its, rv, ⟨ol, n, o1, o2, o3, o4⟩, hz⟩ := I.list (.of (sm _ _ q))
      have hlen : its.toArray.size = ps.length := by rw [List.size_toArray, f1, ← l.len, rv.length]
      refine ddict (K := X.K) (W := W) (ps := ps) (I.ok.hd hc) (by omega) o1 o2 o3 o4 hlen (by rw [hlen, f1, ← l.len]; exact hz) (fun j p e => ?_) (fun d v u k r1 r2 e => Rep.key I sm r1 r2 e) fun h' tk es ep k1 k2 k3 k4 => ?_
      · obtain ⟨b, x, y, g1, g2, g3, g4, g5⟩ := f2 j p e
        obtain ⟨its2, rv2, ht, _⟩ := I.tuple (Same.sqt sm g2)
        obtain ⟨u, z, rfl, ru, rz⟩ := vals2 rv2
        obtain ⟨w0, ew, rw0⟩ := rv.get g1
        cases rw0
        exact ⟨b, u, z, x, y, by simpa using ew, ht, ru, g3, rz, g4, g5⟩
      · have hs : (s.heap.objs.size == sysModules) = false := beq_eq_false_iff_ne.mpr (Nat.ne_of_gt I.big)
        have hsz : es.size ≤ sizeLine := by
          have h1 := k3.len
          rw [Array.length_toList] at h1
          have h2 := dMerge_len ps []
          rw [List.length_nil, Nat.zero_add, f1, ← l.len] at h2
          omega
        exact ⟨.ref s.heap.objs.size, _, I.laid (t' := tk) k1 (Nat.le_refl _) (dicO_new hs hsz k2), rfl, h.dic sm k3 k4 (I.hok.fresh (Nat.le_refl _))⟩
  · exact h.elim
end
end DP
set_option Elab.async false
set_option linter.all false
set_option maxRecDepth 100000
/-! DP, part 19: sorted(d.items()). -/
namespace DP
open PySem PySem.Spec PyProof.Rows L2

mutual
theorem reads_there {h : Heap} : ∀ {v : Value} {d : PyData} {as : List Addr}, Reads h v d as → ∀ a ∈ as, a < h.objs.size
  | _, _, _, .none, _, hm => nomatch hm
  | _, _, _, .bool _, _, hm => nomatch hm
  | _, _, _, .int _ _, _, hm => nomatch hm
  | _, _, _, .str _ _, _, hm => nomatch hm
  | _, _, _, .list h1 _ _ h4, b, hm => (List.mem_cons.mp hm).elim (fun e => e ▸ Heap.lt_size h1) (readsAll_there h4 b)
  | _, _, _, .tuple _ _ _ h4, b, hm => readsAll_there h4 b hm
  | _, _, _, .dict h1 _ _ h4 h5, b, hm => (List.mem_cons.mp hm).elim (fun e => e ▸ Heap.lt_size h1) fun q => (List.mem_append.mp q).elim (readsAll_there h4 b) (readsAll_there h5 b)
theorem readsAll_there {h : Heap} : ∀ {vs : List Value} {ds : List PyData} {as : List Addr}, ReadsAll h vs ds as → ∀ a ∈ as, a < h.objs.size
  | _, _, _, .nil, _, hm => nomatch hm
  | _, _, _, .cons r t, b, hm => (List.mem_append.mp hm).elim (reads_there r b) (readsAll_there t b)
end
section
variable {X : Cx} {Wx : WX}
/-- e.items() -/
def tItems (te : TE) : TE := fun σ H Q => te σ H fun x H1 => ∃ a es ep, x = .ref a ∧ H1 a = some (dicO a es ep) ∧ ∀ p, H1 p = none → Q (.ref p) (upd H1 p (L2.DX.itemsO p a))
theorem pe_items {o : Expr} {apos cpos : Pos} {te : TE} (ho : PE X o te) (hbase : attributeBase o "items" X.env (eval o X.env) = eval o X.env := by rfl) (hline : (apos.endLine == cpos.line) = true := by rfl) : PE X (.Call (.Attribute o "items" apos) [] [] cpos) (tItems te) := by
  refine ⟨fun pins s σ H Q I h => ?_⟩
  refine wpAny_Call_method0_late hbase hline (thn (ho.run pins s σ H _ I h) fun u s1 ⟨x, H1, I1, r1, a, es, ep, ex, hH, q⟩ => ?_)
  subst ex
  obtain rfl : u = Value.ref a := r1
  obtain ⟨⟨h1, h2, h3⟩, _⟩ := I1.hok a _ hH
  refine ⟨"dict", _, PySem.F.plainAttrs_dict, PySem.F.slot_dict_items, PySem.F.type_dict_items, dobj_type h3, fun b e => ?_, Calls.callWith_builtin rfl (PySem.evalArgs_none ?_)⟩
  · cases e
    exact ⟨_, h3, rfl⟩
  · refine DT.callItems (es := es) (ep := ep) h1 ⟨_, h3, ⟨rfl, rfl, rfl⟩, rfl⟩ ?_
    exact ⟨.ref s1.heap.objs.size, _, I1.laid (t' := s1.toks) (fun b u e => Heap.get?_push_of_some _ e) (Nat.le_refl _) (L2.DX.itemsO_ok (Heap.get?_push_size _ rfl)), rfl, q _ (I1.hok.fresh (Nat.le_refl _))⟩
def pairT (p : D × D) : D := .tuple [p.1, p.2]
def sortItemsD : D → Option D
  | .dict kvs => if srtOk (kvs.map pairT) = true then some (.list (sortL (kvs.map pairT))) else none
  | _ => none
/-- sorted(v), v the items of a dict -/
def rSortItems (X : Cx) : List V → Hp → VK → Prop := fun vs H Q => ∃ W p a es ep kvs, vs = [.ref p] ∧ H p = some (L2.DX.itemsO p a) ∧ H a = some (dicO a es ep) ∧ Same W H ∧ RepKV X.K X.w W kvs es.toList ∧ srtOk (kvs.map pairT) = true ∧
  onW X.K X.w W H (some (.list (sortL (kvs.map pairT)))) Q
set_option maxHeartbeats 2000000 in
theorem cr_sortItems (hc : X.calm = true) (hu : X.A.units + 64 < cLine) : CallR X (.builtin "sorted") (rSortItems X) := by
  intro pins s σ H xs us Q I r h
  obtain ⟨W, p, a, es, ep, kvs, rfl, hp, ha, sm, kv, ok, q⟩ := h
  obtain rfl := Vals.ref1 r
  have view : s.heap.IsItemsView p a := (show ObjOk X.prog X.w H s.heap p (L2.DX.itemsO p a) from I.hok p _ hp).1
  obtain ⟨⟨d1, d2, d3⟩, _⟩ := I.hok a _ ha
  refine DT.sortedI (es := es) (ep := ep) (I.ok.hd hc) view ⟨_, d3, ⟨rfl, rfl, rfl⟩, rfl⟩ d2 fun h' tk as hk hlt hl hG => ?_
  have lkv : kvs.length = es.size := by rw [← Array.length_toList, kv.len]
  have nd : as.Nodup := List.Pairwise.imp (fun h => Nat.ne_of_lt h) hG.rise
  -- what was made
  have made : ∀ (j : Nat) (b : Addr), as[j]? = some b → ∃ pr x y, ∃ u z : Value, kvs[j]? = some pr ∧ RelV x u ∧ RelV y z ∧ Rep X.K X.w W pr.1 x ∧ Rep X.K X.w W pr.2 y ∧ h'.get? b = some { cls := .type "tuple", data := .seq #[u, z] } := by
    intro j b hj
    obtain ⟨e, he, hg⟩ := hG.pairs j b hj
    obtain ⟨k, v, q1, _, ⟨x, q2, q3⟩, ⟨y, q4, q5⟩⟩ := kv.at (j := j) (e := e) (by rw [Array.getElem?_toList]; exact he)
    exact ⟨(k, v), x, y, e.key, e.val, q1, q2, q4, q3, q5, hg⟩
  have hob : (h'.push { cls := .type "list", data := .seq (as.map Value.ref).toArray }).get? h'.objs.size = some (seqObj "list" (as.map Value.ref).toArray 0) := Heap.get?_push_size _ rfl
  have kb : ∀ b o, s.heap.get? b = some o → (h'.push { cls := .type "list", data := .seq (as.map Value.ref).toArray }).get? b = some o := fun b o e => Heap.get?_push_of_some _ (hk b o e)
  have ne0 : ∀ b o, h'.get? b = some o → b ≠ h'.objs.size := fun b o e => Nat.ne_of_lt (Heap.lt_size e)
  have ka : ∀ b o, h'.get? b = some o → (h'.push { cls := .type "list", data := .seq (as.map Value.ref).toArray }).get? b = some o := fun b o e => Heap.get?_push_of_some _ e
  generalize hh2 : h'.push { cls := .type "list", data := .seq (as.map Value.ref).toArray } = h2 at hob kb ka ⊢
  have lz : (as.zip (kvs.map pairT)).map (·.2) = kvs.map pairT := List.map_snd_zip (by rw [List.length_map, lkv, hl]; exact Nat.le_refl _)
  have lf : (as.zip (kvs.map pairT)).map (·.1) = as := List.map_fst_zip (by rw [List.length_map, lkv, hl]; exact Nat.le_refl _)
  have inz : ∀ z ∈ as.zip (kvs.map pairT), ∃ (j : Nat) (pr : D × D), as[j]? = some z.1 ∧ kvs[j]? = some pr ∧ z.2 = pairT pr := fun z hz => by
    obtain ⟨j, hj⟩ := List.mem_iff_getElem?.mp hz
    obtain ⟨j1, j2⟩ := List.getElem?_zip_eq_some.mp hj
    rw [List.getElem?_map] at j2
    obtain ⟨pr, e1, e2⟩ := Option.map_eq_some_iff.mp j2
    exact ⟨j, pr, j1, e1, e2.symm⟩
  have each : ∀ l : List (Addr × D), (∀ z ∈ l, z ∈ as.zip (kvs.map pairT)) → PySem.W.EachIs (fun (v : Value) (b : Addr × D) => v = .ref b.1) (l.map fun z => Value.ref z.1) l ∧
      PySem.W.EachIs (fun v b => ∃ ad, Reads h2 v b.2 ad ∧ h'.objs.size ∉ ad) (l.map fun z => Value.ref z.1) l := by
    intro l
    induction l with
    | nil => exact fun _ => ⟨.nil, .nil⟩
    | cons z l ih =>
      intro hz
      obtain ⟨a1, a2⟩ := ih fun r hr => hz r (List.mem_cons_of_mem _ hr)
      obtain ⟨j, pr, j1, j2, j3⟩ := inz z (hz z List.mem_cons_self)
      obtain ⟨pr', x, y, u, w', m1, m2, m3, m4, m5, m6⟩ := made j z.1 j1
      rw [j2] at m1
      cases m1
      obtain ⟨b1, rd1⟩ := Rep.reads I sm _ _ _ m4 m2
      obtain ⟨b2, rd2⟩ := Rep.reads I sm _ _ _ m5 m3
      have rd : Reads h2 (.ref z.1) z.2 (b1 ++ (b2 ++ [])) := by
        rw [j3]
        exact .tuple (ka _ _ m6) rfl rfl (.cons (PyProof.Rows.Reads.keeps kb rd1) (.cons (PyProof.Rows.Reads.keeps kb rd2) .nil))
      refine ⟨.cons rfl a1, .cons ⟨_, rd, fun hm => ?_⟩ a2⟩
      have : h'.objs.size < s.heap.objs.size := by
        rcases List.mem_append.mp hm with q | q
        · exact reads_there rd1 _ q
        · rcases List.mem_append.mp q with q | q
          · exact reads_there rd2 _ q
          · cases q
      omega
  obtain ⟨ea, eb⟩ := each _ fun z hz => hz
  have evs : (as.zip (kvs.map pairT)).map (fun z => Value.ref z.1) = as.map Value.ref := by
    conv => rhs; rw [← lf]
    rw [List.map_map]
    rfl
  rw [evs] at ea eb
  have al : PySem.W.AllAlike ((as.zip (kvs.map pairT)).map fun z => z.2) := by
    have := srtOk_alike ok
    rw [List.map_id] at this
    rw [lz]
    exact this
  have so : PySem.W.Sortable ((as.zip (kvs.map pairT)).map fun z => z.2) := by
    have := srtOk_sortable ok
    rw [List.map_id] at this
    rw [lz]
    exact this
  have hzl : (as.zip (kvs.map pairT)).length ≤ sizeLine := by
    have := congrArg List.length lf
    rw [List.length_map] at this
    omega
  refine PySem.W.list_sort_data (s := { s with heap := h2, toks := tk }) (bs := as.zip (kvs.map pairT)) (enc := fun z => z.2) (R := fun v b => v = .ref b.1) hob ea eb al so hzl (fun b hb => ?_) fun out hlo he => ?_
  · have hm : b.2 ∈ kvs.map pairT := by rw [← lz]; exact List.mem_map.mpr ⟨b, hb, rfl⟩
    have h60 := srtOk_depth ok _ hm
    show X.A.units + 1 + 1 + b.2.depth < cLine
    omega
  · have eo : out = ((as.zip (kvs.map pairT)).mergeSort (PySem.W.dataLe false fun z => z.2)).map fun z => Value.ref z.1 := by
      have : ∀ {vs : List Value} {L2 : List (Addr × D)}, PySem.W.EachIs (fun (v : Value) (b : Addr × D) => v = .ref b.1) vs L2 → vs = L2.map fun z => Value.ref z.1 := by
        intro vs L2 h
        induction h with
        | nil => rfl
        | cons e _ ih => rw [List.map_cons, ← ih, e]
      exact this he
    subst eo
    generalize hzs : (as.zip (kvs.map pairT)).mergeSort (PySem.W.dataLe false fun z => z.2) = zs
    have pz : zs.Perm (as.zip (kvs.map pairT)) := by rw [← hzs]; exact List.mergeSort_perm _ _
    have es2 : zs.map (·.2) = sortL (kvs.map pairT) := by
      rw [← hzs]
      refine (List.map_mergeSort (r := PySem.W.dataLe false fun z : Addr × D => z.2) (s := dLe) (f := fun z : Addr × D => z.2) (l := as.zip (kvs.map pairT)) (fun a _ b _ => rfl)).trans ?_
      rw [lz]
      rfl
    have kF : ∀ b o, b ≠ h'.objs.size → h2.get? b = some o → (sortedHeap h2 h'.objs.size (as.map Value.ref) (zs.map fun z => Value.ref z.1).toArray).get? b = some o := fun b o hb e => (PyProof.Rows.sortedHeap_old hb (Heap.lt_size e)).trans e
    have kS : ∀ b o, s.heap.get? b = some o → (sortedHeap h2 h'.objs.size (as.map Value.ref) (zs.map fun z => Value.ref z.1).toArray).get? b = some o := fun b o e => kF b o (ne0 _ _ (hk b o e)) (kb b o e)
    obtain ⟨eF, heF⟩ := PyProof.Rows.sortedHeap_at (vs := as.map Value.ref) (out := (zs.map fun z => Value.ref z.1).toArray) hob
    have I1 : Inv X pins σ H { s with heap := sortedHeap h2 h'.objs.size (as.map Value.ref) (zs.map fun z => Value.ref z.1).toArray, toks := tk } := I.kept (t' := tk) kS
    have hn0 : H h'.objs.size = none := I.hok.fresh (Nat.le_of_lt hlt)
    have hlen : (zs.map fun z => V.ref z.1).length ≤ sizeLine := by rw [List.length_map, pz.length_eq]; exact hzl
    have rv : Vals (zs.map fun z => V.ref z.1) (zs.map fun z => Value.ref z.1) := vals_maps (fun z : Addr × D => V.ref z.1) (fun z => Value.ref z.1) zs fun _ _ => rfl
    have I2 : Inv X pins σ (upd H h'.objs.size (.lst (zs.map fun z => V.ref z.1))) { s with heap := sortedHeap h2 h'.objs.size (as.map Value.ref) (zs.map fun z => Value.ref z.1).toArray, toks := tk } :=
      I1.take (h' := sortedHeap h2 h'.objs.size (as.map Value.ref) (zs.map fun z => Value.ref z.1).toArray) (t' := tk) (fun b ob _ e => e) (I.fpOk (Nat.le_of_lt hlt) hn0) (show ObjOk X.prog X.w (upd H h'.objs.size (.lst (zs.map fun z => V.ref z.1))) _ _ (.lst (zs.map fun z => V.ref z.1)) from ⟨hlen, zs.map fun z => Value.ref z.1, eF, rv, heF⟩)
    have nas : h'.objs.size ∉ as := fun z => Nat.lt_irrefl _ (hG.there z)
    -- the tuples that were made are tracked
    obtain ⟨H2, I3, g, qt⟩ := L2.DX.takeT (P := fun b vs => ∃ (j : Nat) (pr : D × D) (x y : V), as[j]? = some b ∧ kvs[j]? = some pr ∧ vs = [x, y] ∧ Rep X.K X.w W pr.1 x ∧ Rep X.K X.w W pr.2 y) I as _ I2 nd fun b hb => by
      obtain ⟨j, hj⟩ := List.mem_iff_getElem?.mp hb
      obtain ⟨pr, x, y, u, w', m1, m2, m3, m4, m5, m6⟩ := made j b hj
      have hbl : s.heap.objs.size ≤ b := Nat.le_of_lt (hG.above b hb)
      refine ⟨hbl, ?_, [x, y], ⟨j, pr, x, y, hj, m1, rfl, m4, m5⟩, fun H3 => ⟨(by rw [sizeLine_eq]; show 2 ≤ 16777216; omega), [u, w'], .cons m2 (.cons m3 .nil), ⟨_, kF _ _ (ne0 _ _ m6) (ka _ _ m6), rfl, 0, rfl⟩⟩⟩
      rw [upd_ne (ne0 _ _ m6)]
      exact I.hok.fresh hbl
    have gr : ∀ b o, H b = some o → H2 b = some o := fun b o e => g b o (by rw [upd_ne (ne_of_none e hn0)]; exact e)
    -- what is frozen of it: W and these tuples
    have frz : ∃ W2, Ex W H W2 H2 ∧ (∀ b ∈ as, W2 b = H2 b) ∧ W2 h'.objs.size = none := by
      refine ⟨fun b => if b ∈ as then H2 b else W b, ⟨fun b o e => ?_, gr, fun b o e => ?_, fun b h1 h2 => ?_⟩, fun b hb => if_pos hb, ?_⟩
      · have : b ∉ as := fun z => by
          have hbl : s.heap.objs.size ≤ b := Nat.le_of_lt (hG.above b z)
          rw [sm.free (I.hok.fresh hbl)] at e; cases e
        show (if b ∈ as then H2 b else W b) = some o
        rw [if_neg this]; exact e
      · by_cases hb : b ∈ as
        · simp only [if_pos hb] at e; exact e
        · simp only [if_neg hb] at e; exact gr _ _ (sm _ _ e)
      · by_cases hb : b ∈ as
        · exact I.hok.fresh (Nat.le_of_lt (hG.above b hb))
        · simp only [if_neg hb] at h1; exact absurd h2 h1
      · show (if h'.objs.size ∈ as then H2 h'.objs.size else W h'.objs.size) = none
        rw [if_neg nas]
        exact sm.free hn0
    obtain ⟨W2, ex2, at2, nW2⟩ := frz
    have rl : ∀ l : List (Addr × D), (∀ z ∈ l, z ∈ as.zip (kvs.map pairT)) → RepL X.K X.w W2 (l.map (·.2)) (l.map fun z => V.ref z.1) := by
      intro l
      induction l with
      | nil => exact fun _ => RepL.nil
      | cons z l ih =>
        intro hz
        refine RepL.cons ?_ (ih fun r hr => hz r (List.mem_cons_of_mem _ hr))
        obtain ⟨j, pr, j1, j2, j3⟩ := inz z (hz z List.mem_cons_self)
        have hza := List.mem_of_getElem? j1
        obtain ⟨vs, ⟨i, pr', x, y, i1, i2, rfl, i4, i5⟩, hH⟩ := qt z.1 hza
        have eij : i = j := (List.getElem?_inj (List.getElem?_eq_some_iff.mp i1).1 nd).mp (i1.trans j1.symm)
        subst eij
        rw [j2] at i2
        cases i2
        show Rep X.K X.w W2 z.2 (V.ref z.1)
        rw [j3]
        simp only [pairT, Rep, RepL]
        exact ⟨z.1, [x, y], rfl, .inl (.inl ((at2 _ hza).trans hH)), x, [y], rfl, Rep.mono ex2.ext _ _ i4, y, [], rfl, Rep.mono ex2.ext _ _ i5, rfl⟩
    refine ⟨.ref h'.objs.size, H2, I3, rfl, ?_⟩
    rw [← es2] at q
    exact q W2 _ _ ex2 nW2 ⟨_, g _ _ upd_same, rl zs fun z hz => pz.mem_iff.mp hz⟩ hn0
theorem en_sortItems {e : Expr} {f : XF} {p p2 q pos : Pos} (hc : X.calm = true) (hu : X.A.units + 64 < cLine) (hg : Gl X "sorted") (hm : X.mg "sorted" = none) (he : EX X Wx e f)
    (hbase : attributeBase e "items" X.env (eval e X.env) = eval e X.env := by rfl) (hline : (p2.endLine == q.line) = true := by rfl)
    (hs : starEach [.Call (.Attribute e "items" p2) [] [] q] X.env = (false, eval (.Call (.Attribute e "items" p2) [] [] q) X.env) :: starEach [] X.env := by rfl) :
    EN X Wx (.Call (.Name "sorted" p) [.Call (.Attribute e "items" p2) [] [] q] [] pos) (x1 sortItemsD f) := by
  refine PE.wk (pe_callB (cr_sortItems hc hu) hg hm (by rfl) (pa_cons (pe_items he hbase hline) pa_nil hs) (by decide) (by decide) hs (by rfl)) ?_
  rintro σ H Q ⟨ρ, W, env, A, S, h⟩
  refine tN_then S h fun d W1 H1 env1 A1 v S1 F1 r1 h1 => ?_
  simp only at h1
  unfold sortItemsD at h1
  split at h1
  · rename_i d' kvs
    simp only [Rep] at r1
    obtain ⟨a, es, ep, rfl, q1, kv, nd⟩ := r1
    split at h1
    · rename_i ok
      have h2 := onW_of S1 h1
      refine ⟨a, es, ep, rfl, S1.sub _ _ q1, fun b hb => ?_⟩
      have e2 : Ex W1 H1 W1 (upd H1 b (L2.DX.itemsO b a)) := Ex.junk S1.sub hb
      refine ⟨W1, b, a, es, ep, kvs, rfl, upd_same, ?_, e2.sub, kv, ok, ?_⟩
      · rw [upd_ne (ne_of_none (S1.sub _ _ q1) hb)]
        exact S1.sub _ _ q1
      · intro W3 H3 p3 e3 n3 o3 z3
        have z4 : H1 p3 = none := by
          by_cases z : p3 = b
          · rw [z]; exact hb
          · rwa [upd_ne z] at z3
        exact h2 W3 H3 p3 (e2.trans e3) n3 o3 z4
    · exact h1.elim
  · exact h1.elim
end
end DP
set_option Elab.async false
set_option linter.all false
set_option maxRecDepth 100000
/-! DP, part 20: words for the printed proofs. -/
namespace DP
open PySem PySem.Spec PyProof.Rows L2

/-- what a caller has of a def that reckons F -/
structure Def0 (P : Program) (w : World) (K : PySem.W.Frag) (mg : Str → Option Value) (base : Heap) (k : Nat) (x : Str) (ps : List Str) (F : FD) : Prop where
  ex : ∃ f fd, FnG P w K mg base k f fd ps (spF K w mg ps.length F) ∧ mg x = some (.ref f) ∧ PySem.W.keepIn K (.ref f) = true ∧ Binds K fd ps []
section
variable {X : Cx} {Wx : WX} {k j : Nat} {ps : List Str} {F : FD} {x : Str} {p pos : Pos} {e : Expr} {es : List Expr} {g : AF}
theorem ex_callD (d : Def0 X.prog X.w X.K X.mg X.base k x ps F) (hr : Room j X.A) (hk : k ≤ j) (hq : X.A.guards = some []) (hg : Gl X x) (tk : Takes X Wx) (ha : EA X Wx (e :: es) g)
    (hdb : (x == ("__debug__" : Str)) = false := by decide) (he : starEach (e :: es) X.env = (false, eval e X.env) :: starEach es X.env := by rfl) (hpl : (backTo pos (starEach es X.env)).any (·.1) = false := by rfl) :
    EX X Wx (.Call (.Name x p) (e :: es) [] pos) (xCall ps.length F g) := by
  obtain ⟨f, fd, G, h1, h2, h3⟩ := d.ex
  exact ex_callG G (hr.mono hk) hq hg h1 h2 h3 tk ha hdb he hpl
theorem ex_int {i : Int} {j : Nat} : EX X Wx (.Constant (.int i) j pos) (xConst (.int i)) := ex_const pe_int fun W => by simp only [Rep]
theorem ex_str {y : Str} {j : Nat} : EX X Wx (.Constant (.str y) j pos) (xConst (.str y)) := ex_const pe_str fun W => by simp only [Rep]
theorem ex_none {j : Nat} : EX X Wx (.Constant .none j pos) (xConst .none) := ex_const pe_non fun W => by simp only [Rep]
theorem ex_bl {b : Bool} {j : Nat} : EX X Wx (.Constant (.bool b) j pos) (xConst (.bool b)) := ex_const pe_bl fun W => by simp only [Rep]
end
section
variable {X : Cx} {Wx : WX} {a b c : Expr} {f g k : XF} {pos : Pos} {op op' : CmpOp} {o o' : D → D → Option D}
theorem tst_read {σ : L2.St} {H : Hp} {Q : Bool → Hp → Prop} (h : tT X Wx (tst f) σ H Q) : tX X Wx f σ H fun v H' => ∃ k, v = .bl k ∧ Q k H' := by
  obtain ⟨ρ, W, env, A, S, h⟩ := h
  refine tG_then S h fun d W1 H1 env1 A1 v S1 F1 r1 h1 => ?_
  unfold asB at h1
  split at h1
  · rename_i b e
    simp only at e
    subst e
    simp only [Rep] at r1
    exact ⟨b, r1, h1 W1 H1 A1 b S1 (Fr.refl _ _ _) rfl⟩
  · exact h1.elim
theorem et_cmp (ho : OpR X (compareOp op) (tV2 X.K X.w o)) (ha : EX X Wx a f) (hb : EX X Wx b g) (hm : behindInMarks op b = false := by first | exact nomark _ | rfl) : ET X Wx (.Compare a [op] [b] pos) (tst (x2 o f g)) :=
  PT.wk (pt_cmpR ho ha hb hm) fun σ H Q h => x2_read (fun _ _ _ _ q => q) (tst_read h)
theorem chain_read {σ : L2.St} {H : Hp} {Q : VK} (h : tX X Wx (xChain o o' f g k) σ H Q) : tChain (tV2 X.K X.w o) (tV2 X.K X.w o') (tX X Wx f) (tX X Wx g) (tX X Wx k) σ H Q := by
  obtain ⟨ρ, W, env, A, S, h⟩ := h
  unfold xChain at h
  refine tG_then S h fun d W1 H1 env1 A1 v S1 F1 r1 h1 => ?_
  refine tG_then S1 h1 fun d2 W2 H2 env2 A2 u S2 F2 r2 h2 => ?_
  simp only at h2
  refine ⟨W2, d, d2, S2.sub, Rep.mono F2.ext d v r1, r2, ?_⟩
  cases eo : o d d2 with
  | none => rw [eo] at h2; exact h2.elim
  | some z =>
    rw [eo] at h2
    intro W3 H3 v3 e3 r3
    simp only [liftO_some, Out.bind_ok] at h2
    unfold asB at h2
    cases z with
    | bool q =>
      simp only [Rep] at r3
      subst r3
      refine ⟨q, rfl, ?_⟩
      simp only [Out.bind_ok] at h2
      have S3 := S2.ex e3
      cases q with
      | false =>
        simp only [Bool.false_eq_true, if_false] at h2 ⊢
        exact h2 W3 H3 A2 _ S3 (e3.fr _) rfl
      | true =>
        simp only [if_true] at h2 ⊢
        have h3 := onG_fr h2 (e3.fr (ownd A2))
        refine tG_then S3 h3 fun d4 W4 H4 env4 A4 v4 S4 F4 r4 h4 => ?_
        have h5 : onX X Wx ρ σ W4 H4 A4 (liftO (o' d2 d4) env4) Q := by
          simp only at h4
          cases eo' : o' d2 d4 with
          | none => rw [eo'] at h4; exact h4.elim
          | some z => rw [eo'] at h4; exact h4
        exact ⟨W4, d2, d4, S4.sub, Rep.mono (e3.ext.trans F4.ext) d2 u r2, r4, onV_of S4 h5⟩
    | _ => exact h2.elim
theorem et_chain (ho : OpR X (compareOp op) (tV2 X.K X.w o)) (ho' : OpR X (compareOp op') (tV2 X.K X.w o')) (ha : EX X Wx a f) (hb : EX X Wx b g) (hc : EX X Wx c k)
    (hm : lastMarks [op, op'] [b, c] = false := by with_unfolding_all rfl) : ET X Wx (.Compare a [op, op'] [b, c] pos) (tst (xChain o o' f g k)) :=
  PT.wk (pt_chain ho ho' ha hb hc hm) fun σ H Q h => chain_read (tst_read h)
end
end DP
set_option Elab.async false
set_option linter.all false
set_option maxRecDepth 100000
/-! DP, part 21: defs of the script; the law's own call. -/
namespace DP
open PySem PySem.Spec PyProof.Rows L2

abbrev FS := List Int → Out D
/-- the promise of a def of the script alone -/
def spS (K : PySem.W.Frag) (w : World) (mg : Str → Option Value) (F : FS) : Sp := fun vs H Q E => ∃ W a ns, vs = [V.ref a] ∧ Same W H ∧ SqL K W a (ns.map V.int) ∧ onF K w mg W H (F ns) Q E
def runS (n : Nat) (B : SF) (ns : List Int) : Out D := match B (.sc ns :: List.replicate (n - 1) .no) with
  | .ok (.rt d, _) => .ok d
  | .ok (.nx, _) => .ok .none
  | .ok _ => .bad
  | .exc c d e => .exc c d e
  | .bad => .bad
def xCallS (i : Nat) (F : FS) : XF := fun env => match env[i]? with
  | some (.sc ns) => (match F ns with
    | .ok d => .ok (d, env)
    | .exc c d _ => .exc c d env
    | .bad => .bad)
  | _ => .bad
structure DefS (P : Program) (w : World) (K : PySem.W.Frag) (mg : Str → Option Value) (base : Heap) (k : Nat) (x : Str) (ps : List Str) (F : FS) : Prop where
  ex : ∃ f fd, FnG P w K mg base k f fd ps (spS K w mg F) ∧ mg x = some (.ref f) ∧ PySem.W.keepIn K (.ref f) = true ∧ Binds K fd ps []
section
variable {P : Program} {w : World} {K : PySem.W.Frag} {mg : Str → Option Value} {base : Heap} {k : Nat} {f : Addr} {fd : FuncData} {ps N : List Str}
theorem SR.startS {ρ : Nat → Addr} {W H : Hp} {a : Addr} {ns : List Int} (s : Same W H) (h : SqL K W a (ns.map V.int)) (hN : 1 ≤ N.length) :
    SR K w ρ W H (.sc ns :: List.replicate (N.length - 1) .no) (L2.start N [.ref a]) (List.replicate (L2.start N [.ref a]).length []) := by
  refine ⟨s, ?_, by simp, fun i sl v l h1 h2 h3 => ?_, fun i j l m p h1 h2 h3 _ => absurd ⟨i, l, h1, h3⟩ (own_none p)⟩
  · unfold L2.start
    simp only [List.length_append, List.length_map, List.length_replicate, List.length_cons, List.length_nil]
    omega
  · rw [List.getElem?_replicate] at h3
    split at h3
    · cases h3
      unfold L2.start at h2
      cases i with
      | zero =>
        cases h1
        cases h2
        exact ⟨rfl, a, rfl, h⟩
      | succ i =>
        rw [List.getElem?_cons_succ, List.getElem?_replicate] at h1
        split at h1 <;> cases h1
        exact rfl
    · cases h3
/-- a def of the script -/
theorem fnG_script {x qual : Str} {st : Stmt} {B : SF} (Fn : Fun K x qual st f fd) (S : FnScope N ps (defScope st)) (hp : ps.length = 1) (hN : 1 ≤ N.length)
    (body : ∀ (cdv : Value) (A : Around) (outer : List Env) (s : Shared) (H : Hp) (E : XK), Room k (A.deeper (envOfC qual (defScope st) s.heap.objs.size f cdv)) → A.guards = some [] →
      EB (cxOf (L2.CX P w) P w K mg base N qual (defScope st) f cdv A outer s H E) (fun cls d _ H => E cls d H) (defBody st) B) : FnG P w K mg base (k + 1) f fd ps (spS K w mg (runS N.length B)) := by
  refine fnG_of Fn S (fun vs H Q E h => ?_) fun cdv A outer s H vs Q E hr hg h => ⟨_, body cdv A outer s H E hr hg, ?_⟩
  · obtain ⟨W, a, ns, rfl, _⟩ := h
    exact hp.symm
  · obtain ⟨W, a, ns, rfl, sm, sq, h⟩ := h
    refine ⟨fun _ => 0, W, _, _, SR.startS sm sq hN, ?_⟩
    unfold runS at h
    have ex : ∀ {W' H' : Hp} {A' : List (List Addr)}, Same W' H' → Fr W H (ownd (List.replicate (L2.start N [V.ref a]).length [])) W' H' (ownd A') → Ex W H W' H' := fun s F => F.ex own_none s
    cases eb : B (.sc ns :: List.replicate (N.length - 1) .no) with
    | bad => rw [eb] at h; exact h.elim
    | exc c d e =>
      rw [eb] at h
      exact fun C W' H' A' σ' dx v g S' F' x r' => h C W' H' dx v g (ex S'.sub F') x r'
    | ok q =>
      obtain ⟨fl, env'⟩ := q
      rw [eb] at h
      cases fl with
      | nx => exact fun W' H' A' σ' S' F' => h W' H' _ (ex S'.sub F') rfl
      | rt d => exact fun W' H' A' σ' S' F' v rv => h W' H' v (ex S'.sub F') rv
      | bk => exact h.elim
      | ct => exact h.elim
end
section
variable {X : Cx} {Wx : WX} {k j i : Nat} {ps : List Str} {F : FS} {x y : Str} {p p2 pos : Pos}
theorem ex_callS (d : DefS X.prog X.w X.K X.mg X.base k x ps F) (hr : Room j X.A) (hk : k ≤ j) (hq : X.A.guards = some []) (hg : Gl X x) (tk : Takes X Wx) (h : PE X (.Name y p2) (tVar i))
    (hdb : (x == ("__debug__" : Str)) = false := by decide) (he : starEach [.Name y p2] X.env = (false, eval (.Name y p2) X.env) :: starEach [] X.env := by rfl) (hpl : (backTo pos (starEach [] X.env)).any (·.1) = false := by rfl) :
    EX X Wx (.Call (.Name x p) [.Name y p2] [] pos) (xCallS i F) := by
  obtain ⟨f, fd, G, h1, h2, h3⟩ := d.ex
  refine PE.wk (pe_callG (E := fun σ cls d H => Wx cls d σ H) G (hr.mono hk) hq hg h1 h2 h3 (fun σ => passAt tk σ) (pa_cons h pa_nil he) hdb he hpl) ?_
  rintro σ H Q ⟨ρ, W, env, A, S, h⟩
  unfold xCallS at h
  cases e : env[i]? with
  | none => rw [e] at h; exact h.elim
  | some sl =>
    rw [e] at h
    obtain ⟨v, l, g1, g2, g3⟩ := S.at e
    cases sl with
    | sc ns =>
      obtain ⟨_, a, rfl, q⟩ := g3
      refine ⟨.ref a, g1, W, a, ns, rfl, S.sub, q, ?_⟩
      simp only at h
      cases eF : F ns with
      | bad => rw [eF] at h; exact h.elim
      | ok d =>
        rw [eF] at h
        exact fun W' H' v ex r => h W' H' A v (S.ex ex) (ex.fr _) r
      | exc c d e' =>
        rw [eF] at h
        exact fun C W' H' dx v g ex hx r => h C W' H' A dx v g (S.ex ex) (ex.fr _) hx r
    | _ => exact h.elim
end

/-! ### the law's own call -/
/-- the def is called where nothing is tracked but, at most, the script -/
theorem go_law {P : Program} {w : World} {K : PySem.W.Frag} {mg mb : Str → Option Value} {k : Nat} {fa a : Addr} {fd : FuncData} {x : Str} {F : FS} {s : Shared} {vs : List Value} {ns : List Int} {H : Hp}
    (kin : K.In s.heap) (gl : s.heap.Ns mainGlobals mg) (bl : s.heap.Ns builtinsNs mb) (bb : ∀ x : Str, x ≠ "__name__" → mb x = bootBuiltins x) (lim : s.heap.NoLimit) (gens : s.gens = #[])
    (ha : s.heap.get? a = some { cls := .type "list", data := .seq vs.toArray }) (room : Room k callerA) (G : ∀ base : Heap, K.In base → base.Ns mainGlobals mg → FnG P w K mg base k fa fd [x] (spS K w mg F)) (bind : ∀ (s : Shared) (u : Value), BindsTo s fd ⟨[u], []⟩ [(x, u)])
    (good : F ns = .ok (.bool true)) (sq : SqL K H a (ns.map V.int)) (hok : HOk P w H s.heap) (only : ∀ b, H b = none ∨ ∃ o xs, H b = some (.frz o (.lst xs))) (at_ : ∀ b, H b ≠ none → b = a) (apart : H a ≠ none → K.lookup a = none) :
    codeAny (model P w) callerA (.call (.ref fa) ⟨[.ref a], []⟩) (fun r s' => r = .ok (.ret (.bool true)) ∧ OldK s.heap s'.heap ∧ s'.os = s.os ∧ AllBare s'.gens) s := by
  -- what is not the script is the ground
  have ground : ∀ {b : Addr} {o : Obj}, s.heap.get? b = some o → (b = a → H a = none) → (hidT s.heap H).get? b = some o := fun {b o} e h => hidT_get e (by
    cases q : H b with
    | none => rfl
    | some u =>
      have z : b = a := at_ b (by rw [q]; exact fun z => nomatch z)
      have z2 := h z
      rw [← z, q] at z2
      cases z2)
  have names : ∀ {b : Addr} {m : Str → Option Value}, s.heap.Ns b m → (hidT s.heap H).Ns b m := by
    rintro b m ⟨o, es, ep, e, d, r⟩
    refine ⟨o, es, ep, ground e fun z => ?_, d, r⟩
    subst z
    rw [ha] at e
    cases e
    cases (show Data.seq vs.toArray _ = Data.dict es ep from d)
  have kin' : K.In (hidT s.heap H) := fun b o e => ground (kin b o e) fun z => by
    subst z
    cases q : H b with
    | none => rfl
    | some u =>
      have := apart (by rw [q]; exact fun z => nomatch z)
      rw [e] at this
      cases this
  obtain ⟨mc, l1, l2⟩ := lim
  have e0 : Env0 P w K mg (hidT s.heap H) callerA [] s H := ⟨rfl, ⟨kin', names gl, ⟨mb, names bl, bb⟩, ⟨mc, names l1, l2⟩⟩, fun b o e => of_hidT e, Nat.le_of_eq (hidT_size _ _), trivial, fun b hb => (nomatch (show b ∈ ([] : List Addr) from hb)), hok, AllBare.of_eq gens⟩
  refine codeAny_mono ((G _ kin' (names gl)).go callerA [] s H ⟨[.ref a], []⟩ [.ref a] [.ref a] (fun v _ => v = .bl true) (fun _ _ _ => False) room rfl e0 (bind s (.ref a)) (.cons rfl .nil) ⟨H, a, ns, rfl, Same.refl _, sq, ?_⟩) ?_
  · rw [good]
    exact fun W' H' v _ r => r
  · intro r s' h
    cases r with
    | error e =>
      obtain ⟨_, _, _, _, _, _, _, _, _, _, _, _, z⟩ := h
      exact z.elim
    | ok fl =>
      cases fl with
      | ret u =>
        obtain ⟨v, H', os, bare, un, hok', rv, q⟩ := h
        have q : v = .bl true := q
        subst q
        cases (show u = Value.bool true from rv)
        refine ⟨rfl, OldK.of_keep fun b o e => ?_, os, bare⟩
        rcases only b with z | ⟨ob, xs, z⟩
        · exact un.keep b o e z (fun z => nomatch (show b ∈ ([] : List Addr) from z)) (fun z => nomatch z)
        · obtain ⟨e1, _⟩ := hok b _ z
          obtain ⟨e2, _⟩ := hok' b _ (un.frzs b ob _ z)
          rw [e] at e1
          cases e1
          exact e2
      | next => exact h.elim
      | brk => exact h.elim
      | cont => exact h.elim
/-- THE LAW, from what its def reckons at every script -/
theorem walk_law {l : PySem.W.OpenLaw} {n k : Nat} {q : Program} {loose : List Str} {XP : (Str → Option Value) → Heap → Prop} {YP : World → Heap → Prop} {d : DefRec} {K : Params → PySem.W.Frag} {F : FS} {x : Str}
    (hn : l.most = some n) (hn2 : n ≤ sizeLine) (hdf : d.params.defaults = []) (hr : Room k callerA) (hY : ∀ (w : World) (h : Heap), YP w h → (K w.params).In h)
    (go : ∀ (w : World) (mg : Str → Option Value) (fa : Addr) (h : Heap), (K w.params).In h → h.Ns mainGlobals mg → mg d.name = some (.ref fa) →
      ∃ fd : FuncData, (∀ (s : Shared) (u : Value), BindsTo s fd ⟨[u], []⟩ [(x, u)]) ∧ ∀ base : Heap, (K w.params).In base → base.Ns mainGlobals mg → FnG l.prog w (K w.params) mg base k fa fd [x] (spS (K w.params) w mg F))
    (good : ∀ ns : List Int, ns.length ≤ n → F ns = .ok (.bool true)) : PySem.W.WalkO q loose XP YP l.row.toRowW d [] (fun f vs => PySem.call f vs) := by
  refine Att.attach_call hn hdf fun w s₀ s mg mb fa o pm cd doc a vs ns G Y ho hd hcd hmg hobj hints hlen hg => ?_
  have kin := hY w _ Y
  obtain ⟨fd, bind, run⟩ := go w mg fa _ kin G.T.g hmg
  have rv := vals_ints hints
  have hz : ns.length ≤ sizeLine := Nat.le_trans hlen hn2
  cases hk : (K w.params).lookup a with
  | some ob =>
    -- the script is an object of the module's
    have e := kin a ob hk
    rw [hobj] at e
    cases e
    refine go_law (H := fun _ => none) kin G.T.g G.T.b G.T.builtins G.T.nolimit hg hobj hr run bind (good ns hlen) (.inr ⟨_, vs.toArray, _, hk, rfl, rfl, rfl, by rw [List.size_toArray, ← rv.length, List.length_map]; exact hz, by simpa using rv⟩) (fun b u z => nomatch z) (fun _ => .inl rfl) (fun b z => absurd rfl z) fun z => absurd rfl z
  | none =>
    refine go_law (H := upd (fun _ => none) a (.frz { cls := .type "list", data := .seq vs.toArray } (.lst (ns.map V.int)))) kin G.T.g G.T.b G.T.builtins G.T.nolimit hg hobj hr run bind (good ns hlen) (.inl (.inr ⟨_, upd_same⟩)) (fun b u z => ?_) (fun b => ?_) (fun b z => ?_) fun _ => hk
    · by_cases hb : b = a
      · subst hb
        rw [upd_same] at z
        cases z
        exact ⟨hobj, by rw [List.length_map]; exact hz, vs, _, rv, hobj⟩
      · rw [upd_ne hb] at z
        cases z
    · by_cases hb : b = a
      · subst hb
        exact .inr ⟨_, _, upd_same⟩
      · exact .inl (upd_ne hb)
    · by_cases hb : b = a
      · exact hb
      · exact absurd (upd_ne hb) z
end DP
set_option Elab.async false
set_option linter.all false
set_option maxRecDepth 100000
/-! DP, part 22: plain laws of the words. -/
namespace DP
open PySem PySem.Spec PyProof.Rows L2

section
variable {f g : SF} {env e1 : Ev} {d : D} {i : Nat}
theorem seq_nx (h : f env = .ok (.nx, e1)) : sSeq f g env = g e1 := by unfold sSeq; rw [h]; rfl
theorem seq_rt {e1 : Ev} (h : f env = .ok (.rt d, e1)) : sSeq f g env = .ok (.rt d, e1) := by unfold sSeq; rw [h]; rfl
theorem for_inv {g : GF} {body : SF} (I : Nat → Ev → Prop) : ∀ (xs : List D) (n : Nat) (env : Ev), (∀ i x env, xs[i]? = some x → I (n + i) env → ∃ e1 e2, g x env = some e1 ∧ body e1 = .ok (.nx, e2) ∧ I (n + i + 1) e2) → I n env →
    ∃ e2, forL g body xs env = .ok (.nx, e2) ∧ I (n + xs.length) e2
  | [], n, env, _, h => ⟨env, rfl, h⟩
  | x :: xs, n, env, step, h => by
    obtain ⟨e1, e2, h1, h2, h3⟩ := step 0 x env rfl h
    obtain ⟨e3, h4, h5⟩ := for_inv I xs (n + 1) e2 (fun i y env hy hi => by
      obtain ⟨a, b, c1, c2, c3⟩ := step (i + 1) y env (by simpa using hy) (by rw [show n + (i + 1) = n + 1 + i by omega]; exact hi)
      exact ⟨a, b, c1, c2, by rw [show n + 1 + i + 1 = n + (i + 1) + 1 by omega]; exact c3⟩) h3
    refine ⟨e3, ?_, by rw [List.length_cons, show n + (xs.length + 1) = n + 1 + xs.length by omega]; exact h5⟩
    unfold forL
    rw [h1]
    simp only [h2, Out.bind_ok, h4]
/-- a comprehension whose elements change no slot -/
theorem cmp_all {g : GF} {el : XF} {vs : List Nat} {env : Ev} {f : D → D} {e1 : D → Ev} : ∀ xs : List D, (∀ x ∈ xs, g x env = some (e1 x) ∧ el (e1 x) = .ok (f x, e1 x) ∧ wipeE (e1 x) vs = env) → cmpL g tTrue el vs xs env = .ok (xs.map f, env)
  | [], _ => rfl
  | x :: xs, h => by
    obtain ⟨h1, h2, h3⟩ := h x List.mem_cons_self
    unfold cmpL
    rw [h1]
    simp only [tTrue, Out.bind_ok, if_true, h2, h3, cmp_all xs fun y hy => h y (List.mem_cons_of_mem _ hy), List.map_cons]
theorem cmp_if {g : GF} {ts : TF} {el : XF} {vs : List Nat} {env : Ev} {f : D → D} {b : D → Bool} {e1 : D → Ev} : ∀ xs : List D, (∀ x ∈ xs, g x env = some (e1 x) ∧ ts (e1 x) = .ok (b x, e1 x) ∧ (b x = true → el (e1 x) = .ok (f x, e1 x)) ∧ wipeE (e1 x) vs = env) →
    cmpL g ts el vs xs env = .ok ((xs.filter b).map f, env)
  | [], _ => rfl
  | x :: xs, h => by
    obtain ⟨h1, h2, h3, h4⟩ := h x List.mem_cons_self
    have ih := cmp_if xs fun y hy => h y (List.mem_cons_of_mem _ hy)
    unfold cmpL
    rw [h1]
    cases hb : b x with
    | true => simp only [h2, Out.bind_ok, hb, if_true, h3 hb, h4, ih, List.filter_cons, List.map_cons]
    | false => simp only [h2, Out.bind_ok, hb, Bool.false_eq_true, if_false, h4, ih, List.filter_cons]
end

theorem runS_rt {n : Nat} {B : SF} {ns : List Int} {d : D} {e : Ev} (h : B (.sc ns :: List.replicate (n - 1) .no) = .ok (.rt d, e)) : runS n B ns = .ok d := by unfold runS; rw [h]
theorem runB_rt {n : Nat} {B : SF} {ds : List D} {d : D} {e : Ev} (h : B (ds.map .fz ++ List.replicate (n - ds.length) .no) = .ok (.rt d, e)) : runB n B ds = .ok d := by unfold runB; rw [h]
/-! ### one step each -/
theorem bind_congr {α β : Type} {a b : Out α} {f : α → Out β} (h : a = b) : a.bind f = b.bind f := by rw [h]
section
variable {f g k : XF} {c t u : TF} {p q : SF} {l : AF} {env : Ev} {d : D} {i j n : Nat} {o o' : D → D → Option D} {o1 : D → Option D} {on : List D → Option D} {F : FD} {G : GF} {GL : GLF} {w : IF}
@[simp] theorem xConst_ap : xConst d env = .ok (d, env) := rfl
theorem xVar_fz (h : env[i]? = some (.fz d)) : xVar i env = .ok (d, env) := by unfold xVar; rw [h]
@[simp] theorem xVar_ap (h : env[i]? = some (.fz d)) : xVar i env = .ok (d, env) := xVar_fz h
@[simp] theorem x1_ap : x1 o1 f env = (f env).bind fun r => liftO (o1 r.1) r.2 := rfl
@[simp] theorem x2_ap : x2 o f g env = (f env).bind fun r => (g r.2).bind fun q => liftO (o r.1 q.1) q.2 := rfl
@[simp] theorem xn_ap : xn on l env = (l env).bind fun r => liftO (on r.1) r.2 := rfl
@[simp] theorem aNil_ap : aNil env = .ok ([], env) := rfl
@[simp] theorem aCons_ap : aCons f l env = (f env).bind fun r => (l r.2).bind fun q => .ok (r.1 :: q.1, q.2) := rfl
@[simp] theorem xTup_ap : xTup l env = (l env).bind fun r => liftO (if r.1.length ≤ sizeLine then some (.tuple r.1) else none) r.2 := rfl
@[simp] theorem xLst_ap : xLst l env = (l env).bind fun r => liftO (if r.1.length ≤ sizeLine then some (.list r.1) else none) r.2 := rfl
@[simp] theorem tst_ap : tst f env = (f env).bind asB := rfl
@[simp] theorem tNot_ap : tNotF c env = (c env).bind fun r => .ok (!r.1, r.2) := rfl
@[simp] theorem tAnd_ap : tAndF t u env = (t env).bind fun r => if r.1 = true then u r.2 else .ok (false, r.2) := rfl
@[simp] theorem tOr_ap : tOrF t u env = (t env).bind fun r => if r.1 = true then .ok (true, r.2) else u r.2 := rfl
@[simp] theorem tTrue_ap : tTrue env = .ok (true, env) := rfl
@[simp] theorem xIf_ap : xIf c f g env = (c env).bind fun r => if r.1 = true then f r.2 else g r.2 := rfl
@[simp] theorem xBool_ap : xBool c env = (c env).bind fun r => .ok (.bool r.1, r.2) := rfl
@[simp] theorem xChain_ap : xChain o o' f g k env = (f env).bind fun r => (g r.2).bind fun q => (liftO (o r.1 q.1) q.2).bind fun t => (asB t).bind fun t => if t.1 = true then (k t.2).bind fun u => (liftO (o' q.1 u.1) u.2).bind fun z => .ok z else .ok (.bool false, t.2) := rfl
@[simp] theorem xCall_ap : xCall n F l env = (l env).bind fun r => if r.1.length = n then (match F r.1 with
  | .ok d => .ok (d, r.2)
  | .exc c d _ => .exc c d r.2
  | .bad => .bad) else .bad := rfl
@[simp] theorem sNext_ap : sNext env = .ok (.nx, env) := rfl
@[simp] theorem sSeq_ap : sSeq p q env = (p env).bind fun r => match r.1 with
  | .nx => q r.2
  | fl => .ok (fl, r.2) := rfl
@[simp] theorem sSet_ap : sSet i f env = (f env).bind fun r => .ok (.nx, r.2.set i (.fz r.1)) := rfl
@[simp] theorem sOwn_ap : sOwn i f env = (f env).bind fun r => .ok (.nx, r.2.set i (.ow none r.1)) := rfl
@[simp] theorem sDrop_ap : sDrop f env = (f env).bind fun r => .ok (.nx, r.2) := rfl
@[simp] theorem sRet_ap : sRet f env = (f env).bind fun r => .ok (.rt r.1, r.2) := rfl
@[simp] theorem sRetN_ap : sRetN env = .ok (.rt .none, env) := rfl
@[simp] theorem sIf_ap : sIf c p q env = (c env).bind fun r => if r.1 = true then p r.2 else q r.2 := rfl
@[simp] theorem sPar2_ap : sPar2 i j l env = (l env).bind fun r => match r.1 with
  | [a, b] => .ok (.nx, (r.2.set i (.fz a)).set j (.fz b))
  | _ => .bad := rfl
@[simp] theorem sAsg_ap : sAsg G f env = (f env).bind fun r => match G r.1 r.2 with
  | some e => .ok (.nx, e)
  | none => .bad := rfl
@[simp] theorem gN_ap : gN i d env = some (env.set i (.fz d)) := rfl
@[simp] theorem gT_ap {ds : List D} : gT GL (.tuple ds) env = GL ds env := rfl
@[simp] theorem glNil_ap : glNil [] env = some env := rfl
@[simp] theorem glCons_ap {r : List D} : glCons G GL (d :: r) env = (G d env).bind (GL r) := rfl
@[simp] theorem sFor_ap : sFor w G p env = (w env).bind fun r => forL G p r.1 r.2 := rfl
@[simp] theorem iSeq_ap : iSeq f env = (f env).bind fun r => liftO (seqD r.1) r.2 := rfl
@[simp] theorem iArgs_ap {op : List D → Option (List D)} : iArgs op l env = (l env).bind fun r => liftO (op r.1) r.2 := rfl
@[simp] theorem pNo_ap : pNo env = .ok (none, env) := rfl
@[simp] theorem pAt_ap : pAt f env = (f env).bind asI := rfl
@[simp] theorem asI_int {x : Int} : asI (.int x, env) = .ok (some x, env) := rfl
@[simp] theorem xSl_ap {pl ph : PF} : xSl f pl ph env = (f env).bind fun r => (pl r.2).bind fun l => (ph l.2).bind fun h => liftO (slD r.1 l.1 h.1) h.2 := rfl
@[simp] theorem xComp_ap {vs : List Nat} : xComp w G c f vs env = ((w env).bind fun r => match cmpL G c f vs r.1 (wipeE r.2 vs) with
  | .ok (ds, e) => if ds.length ≤ sizeLine then .ok (ds, backE r.2 e vs) else .bad
  | _ => .bad).bind fun r => .ok (.list r.1, r.2) := rfl
@[simp] theorem xSortSet_ap : xSortSet f env = (f env).bind fun r => liftO (sortSetD r.1) r.2 := rfl
def owOf : Option Sl → Option D
  | some (.ow _ c) => some c
  | _ => none
@[simp] theorem owOf_ow {t : Option Nat} : owOf (some (.ow t d)) = some d := rfl
@[simp] theorem xVar_ow (h : owOf env[i]? = some d) : xVar i env = .ok (d, env.set i (.fz d)) := by
  unfold xVar
  cases e : env[i]? with
  | none => rw [e] at h; cases h
  | some s =>
    rw [e] at h
    cases s with
    | ow t c => cases h; rfl
    | _ => cases h
@[simp] theorem xLenS_ap {ns : List Int} (h : env[i]? = some (.sc ns)) : xLenS i env = .ok (.int ns.length, env) := by unfold xLenS; rw [h]
@[simp] theorem xAtS_ap {ns : List Int} (h : env[i]? = some (.sc ns)) : xAtS i f env = (f env).bind fun r => match r.1 with
    | .int k => liftO ((L2.atI ns k).map .int) r.2
    | _ => .bad := by unfold xAtS; rw [h]; try rfl
@[simp] theorem xCallS_ap {ns : List Int} {F : FS} (h : env[i]? = some (.sc ns)) : xCallS i F env = (match F ns with
    | .ok d => .ok (d, env)
    | .exc c d _ => .exc c d env
    | .bad => .bad) := by unfold xCallS; rw [h]; try rfl
def isOwl : Option Sl → Bool
  | some (.ow _ (.list _)) => true
  | _ => false
@[simp] theorem isOwl_ow {t : Option Nat} {ds : List D} : isOwl (some (.ow t (.list ds))) = true := rfl
@[simp] theorem xMutL_ap {op : List D → List D → Option (D × List D)} (h : isOwl env[i]? = true) : xMutL i op l env = (l env).bind fun r => match r.2[i]? with
    | some (.ow t (.list ds)) => (match op ds r.1 with
      | some (z, ds') => .ok (z, r.2.set i (.ow t (.list ds')))
      | none => .bad)
    | _ => .bad := by
  unfold xMutL
  cases e : env[i]? with
  | none => rw [e] at h; cases h
  | some s =>
    rw [e] at h
    unfold isOwl at h
    split at h
    · rename_i q
      cases q
      rfl
    · cases h
theorem for_args {op : List D → Option (List D)} {ds xs : List D} {e1 : Ev} (h : l env = .ok (ds, e1)) (h2 : op ds = some xs) : sFor (iArgs op l) G p env = forL G p xs e1 := by
  unfold sFor iArgs
  rw [h]
  simp only [Out.bind_ok, h2, liftO_some]
theorem for_seq {xs : List D} {d : D} {e1 : Ev} (h : f env = .ok (d, e1)) (h2 : seqD d = some xs) : sFor (iSeq f) G p env = forL G p xs e1 := by
  unfold sFor iSeq
  rw [h]
  simp only [Out.bind_ok, h2, liftO_some]
theorem app_ok {ds : List D} (h : ds.length < sizeLine) : opApp ds [d] = some (.none, ds ++ [d]) := if_pos h
theorem app_small {ds : List D} (h : ds.length < 16777216) : opApp ds [d] = some (.none, ds ++ [d]) := app_ok (by rw [sizeLine_eq]; exact h)
@[simp] theorem absD_i {x : Int} : absD [.int x] = some (.int (if x < 0 then -x else x)) := rfl
@[simp] theorem min2_i {x y : Int} : min2D [.int x, .int y] = some (.int (if y < x then y else x)) := rfl
@[simp] theorem max2_i {x y : Int} : max2D [.int x, .int y] = some (.int (if x < y then y else x)) := rfl
theorem rng1_ok {x : Int} (h : x < 4611686018427387904) (h2 : -4611686018427387904 < x) : rng1 [.int x] = some (rngD 0 1 x.toNat) := by
  have : s62 x = true := by simp [s62]; omega
  unfold rng1
  simp [this]
@[simp] theorem lenD_l {ds : List D} : lenD [.list ds] = some (.int ds.length) := rfl
@[simp] theorem lenD_t {ds : List D} : lenD [.tuple ds] = some (.int ds.length) := rfl
@[simp] theorem intD_i {x : Int} : intD [.int x] = some (.int x) := rfl
@[simp] theorem ixD_l {ds : List D} {x : Int} : ixD (.list ds) (.int x) = atI ds x := rfl
@[simp] theorem ixD_t {ds : List D} {x : Int} : ixD (.tuple ds) (.int x) = atI ds x := rfl
end
@[simp] theorem add_int (i j : Int) : addD (.int i) (.int j) = some (.int (i + j)) := rfl
@[simp] theorem sub_int (i j : Int) : subD (.int i) (.int j) = some (.int (i - j)) := rfl
@[simp] theorem neg_int (i : Int) : negD (.int i) = some (.int (-i)) := rfl
theorem mod_int {i j : Int} (h : 0 < j) : modD (.int i) (.int j) = some (.int (i % j)) := by
  unfold modD
  simp only
  rw [if_pos (by omega), Int.fmod_eq_emod_of_nonneg _ (by omega)]
theorem fdiv_int {i j : Int} (h : 0 < j) (h2 : j < 1073741824) : fdivD (.int i) (.int j) = some (.int (i / j)) := by
  unfold fdivD
  simp only
  rw [if_pos ⟨by omega, by omega⟩, Int.fdiv_eq_ediv_of_nonneg _ (by omega)]
theorem mul_r {i j : Int} (h : s64 j = true) : mulD (.int i) (.int j) = some (.int (i * j)) := by
  unfold mulD
  simp [h]
theorem mul_l {i j : Int} (h : s64 i = true) : mulD (.int i) (.int j) = some (.int (i * j)) := by
  unfold mulD
  simp [h]
theorem okD_leaf {x y : D} (h : x.depth = 0) : okD x y = true := by
  unfold okD
  rw [h]
  simp
@[simp] theorem lt_int (i j : Int) : ltD (.int i) (.int j) = some (.bool (decide (i < j))) := by
  unfold ltD
  rw [if_pos (by simp [PySem.W.alike, notNone, okD, PyData.depth]), PySem.W.dataLt_int]
@[simp] theorem gt_int (i j : Int) : gtD (.int i) (.int j) = some (.bool (decide (j < i))) := by
  unfold gtD
  rw [if_pos (by simp [PySem.W.alike, notNone, okD, PyData.depth]), PySem.W.dataLt_int]
@[simp] theorem le_int (i j : Int) : leD (.int i) (.int j) = some (.bool (decide (i ≤ j))) := by
  unfold leD
  rw [if_pos (by simp [PySem.W.alike, notNone, okD, PyData.depth]), PySem.W.dataLt_int]
  congr 2
  by_cases h : i ≤ j
  · rw [decide_eq_true h, decide_eq_false (by omega)]; rfl
  · rw [decide_eq_false h, decide_eq_true (by omega)]; rfl
@[simp] theorem ge_int (i j : Int) : geD (.int i) (.int j) = some (.bool (decide (j ≤ i))) := by
  unfold geD
  rw [if_pos (by simp [PySem.W.alike, notNone, okD, PyData.depth]), PySem.W.dataLt_int]
  congr 2
  by_cases h : j ≤ i
  · rw [decide_eq_true h, decide_eq_false (by omega)]; rfl
  · rw [decide_eq_false h, decide_eq_true (by omega)]; rfl
@[simp] theorem eq_int (i j : Int) : eqD (.int i) (.int j) = some (.bool (decide (i = j))) := by
  unfold eqD
  rw [if_pos (by simp [PyData.plain, okD, PyData.depth])]
  simp only [PyData.eqv]
  exact congrArg (fun b => some (PyData.bool b)) (by rw [Bool.eq_iff_iff]; simp)
@[simp] theorem ne_int (i j : Int) : neD (.int i) (.int j) = some (.bool (decide (i ≠ j))) := by
  unfold neD
  rw [if_pos (by simp [PyData.plain, okD, PyData.depth])]
  simp only [PyData.eqv]
  exact congrArg (fun b => some (PyData.bool b)) (by rw [Bool.eq_iff_iff]; simp)
@[simp] theorem eq_strD (x y : Str) : eqD (.str x) (.str y) = some (.bool (decide (x = y))) := by
  unfold eqD
  rw [if_pos (by simp [PyData.plain, okD, PyData.depth])]
  simp only [PyData.eqv]
  exact congrArg (fun b => some (PyData.bool b)) (by rw [Bool.eq_iff_iff]; simp)
@[simp] theorem ne_strD (x y : Str) : neD (.str x) (.str y) = some (.bool (decide (x ≠ y))) := by
  unfold neD
  rw [if_pos (by simp [PyData.plain, okD, PyData.depth])]
  simp only [PyData.eqv]
  exact congrArg (fun b => some (PyData.bool b)) (by rw [Bool.eq_iff_iff]; simp)
end DP
set_option Elab.async false
set_option linter.all false
set_option maxRecDepth 100000
/-! DP, part 23: plain laws of sorted tuples of ints, of dicts with int keys, of comprehensions. -/
namespace DP
open PySem PySem.Spec PyProof.Rows L2

theorem cmp_ex {g : GF} {el : XF} {vs : List Nat} {env : Ev} {R : D → Prop} : ∀ xs : List D, (∀ x ∈ xs, ∃ e1 y, g x env = some e1 ∧ el e1 = .ok (y, e1) ∧ wipeE e1 vs = env ∧ R y) → ∃ ys, cmpL g tTrue el vs xs env = .ok (ys, env) ∧ ys.length = xs.length ∧ ∀ y ∈ ys, R y
  | [], _ => ⟨[], rfl, rfl, fun _ h => nomatch h⟩
  | x :: xs, h => by
    obtain ⟨e1, y, h1, h2, h3, h4⟩ := h x List.mem_cons_self
    obtain ⟨ys, h5, h6, h7⟩ := cmp_ex xs fun z hz => h z (List.mem_cons_of_mem _ hz)
    refine ⟨y :: ys, ?_, by simp [h6], fun z hz => (List.mem_cons.mp hz).elim (fun e => e ▸ h4) (h7 z)⟩
    unfold cmpL
    rw [h1]
    simp only [tTrue, Out.bind_ok, if_true, h2, h3, h5]
theorem cmp_ix {g : GF} {el : XF} {vs : List Nat} {env : Ev} {F : Nat → D} : ∀ (xs : List D) (n : Nat), (∀ i x, xs[i]? = some x → ∃ e1, g x env = some e1 ∧ el e1 = .ok (F (n + i), e1) ∧ wipeE e1 vs = env) → cmpL g tTrue el vs xs env = .ok ((List.range' n xs.length).map F, env)
  | [], n, _ => rfl
  | x :: xs, n, h => by
    obtain ⟨e1, h1, h2, h3⟩ := h 0 x rfl
    have ih := cmp_ix xs (n + 1) fun i y hy => by
      obtain ⟨e2, a, b, c⟩ := h (i + 1) y (by simpa using hy)
      exact ⟨e2, a, by rw [show n + 1 + i = n + (i + 1) by omega]; exact b, c⟩
    unfold cmpL
    rw [h1]
    simp only [tTrue, Out.bind_ok, if_true, h2, h3, ih, List.length_cons, List.range'_succ, List.map_cons, Nat.add_zero]
theorem cmp2_all {g g1 : GF} {it1 : IF} {el : XF} {vs vs1 : List Nat} {env : Ev} {f : D → List D} : ∀ xs : List D, (∀ x ∈ xs, ∃ e1 i e2 e3, g x env = some e1 ∧ it1 e1 = .ok (i, e2) ∧ cmpL g1 tTrue el vs1 i (wipeE e2 vs1) = .ok (f x, e3) ∧ wipeE e3 vs = env) →
    cmp2L g tTrue it1 g1 tTrue el vs vs1 xs env = .ok ((xs.map f).flatten, env)
  | [], _ => rfl
  | x :: xs, h => by
    obtain ⟨e1, i, e2, e3, h1, h2, h3, h4⟩ := h x List.mem_cons_self
    unfold cmp2L
    rw [h1]
    simp only [tTrue, Out.bind_ok, if_true, h2, h3, h4, cmp2_all xs fun y hy => h y (List.mem_cons_of_mem _ hy), List.map_cons, List.flatten_cons]
theorem comp2_ok {it : IF} {g : GF} {ts : TF} {it1 : IF} {g1 : GF} {ts1 : TF} {el : XF} {vs vs1 : List Nat} {env e1 e2 : Ev} {xs ys : List D} (h1 : it env = .ok (xs, e1)) (h2 : cmp2L g ts it1 g1 ts1 el vs vs1 xs (wipeE e1 vs) = .ok (ys, e2)) (h3 : ys.length ≤ sizeLine) : xComp2 it g ts it1 g1 ts1 el vs vs1 env = .ok (.list ys, backE e1 e2 vs) := by
  unfold xComp2 lComp2
  rw [h1]
  simp only [Out.bind_ok, h2, if_pos h3]
theorem comp_ok {it : IF} {g : GF} {ts : TF} {el : XF} {vs : List Nat} {env e1 e2 : Ev} {xs ys : List D} (h1 : it env = .ok (xs, e1)) (h2 : cmpL g ts el vs xs (wipeE e1 vs) = .ok (ys, e2)) (h3 : ys.length ≤ sizeLine) : xComp it g ts el vs env = .ok (.list ys, backE e1 e2 vs) := by
  unfold xComp lComp
  rw [h1]
  simp only [Out.bind_ok, h2, if_pos h3]
theorem args_ok {op : List D → Option (List D)} {l : AF} {env e1 : Ev} {ds xs : List D} (h : l env = .ok (ds, e1)) (h2 : op ds = some xs) : iArgs op l env = .ok (xs, e1) := by
  unfold iArgs
  rw [h]
  simp only [Out.bind_ok, h2, liftO_some]
theorem seq_ok {f : XF} {env e1 : Ev} {d : D} {xs : List D} (h : f env = .ok (d, e1)) (h2 : seqD d = some xs) : iSeq f env = .ok (xs, e1) := by
  unfold iSeq
  rw [h]
  simp only [Out.bind_ok, h2, liftO_some]
theorem its_of {R : List Int → Prop} : ∀ ys : List D, (∀ y ∈ ys, ∃ l, y = tupI l ∧ R l) → ∃ L : List (List Int), ys = L.map tupI ∧ ∀ l ∈ L, R l
  | [], _ => ⟨[], rfl, fun _ h => nomatch h⟩
  | y :: ys, h => by
    obtain ⟨l, rfl, h1⟩ := h y List.mem_cons_self
    obtain ⟨L, rfl, h2⟩ := its_of ys fun z hz => h z (List.mem_cons_of_mem _ hz)
    exact ⟨l :: L, rfl, fun z hz => (List.mem_cons.mp hz).elim (fun e => e ▸ h1) (h2 z)⟩
theorem depth_ints : ∀ l : List Int, PyData.depthAll (l.map PyData.int) = 0
  | [] => by simp [PyData.depthAll]
  | x :: l => by simp [PyData.depthAll, PyData.depth, depth_ints l]
theorem depth_tupI (l : List Int) : (tupI l).depth = 1 := by simp [PyData.depth, depth_ints]
theorem srtOk_tups {L : List (List Int)} (h : ∀ l ∈ L, l ≠ []) : srtOk (L.map tupI) = true := by
  simp only [srtOk, Bool.and_eq_true, Bool.or_eq_true, List.all_eq_true, List.mem_map, decide_eq_true_eq]
  refine ⟨⟨?_, .inl ?_⟩, ?_⟩
  · rintro x ⟨a, ha, rfl⟩ y ⟨b, hb, rfl⟩
    simp only [PySem.W.alike]
    exact alike_ints a b
  · rintro x ⟨a, ha, rfl⟩
    cases a with
    | nil => exact absurd rfl (h _ ha)
    | cons i a => rfl
  · rintro x ⟨a, ha, rfl⟩
    rw [depth_tupI]
    omega
theorem sortL_tups (L : List (List Int)) : sortL (L.map tupI) = (L.mergeSort leI).map tupI := by
  unfold sortL
  exact (List.map_mergeSort (r := leI) (s := dLe) (f := tupI) (l := L) fun a _ b _ => (dLe_tupI a b).symm).symm
theorem strict_of : ∀ {L : List (List Int)}, L.Nodup → L.Pairwise (fun a b => leI a b = true) → L.Pairwise (fun a b => lexI a b = true)
  | [], _, _ => List.Pairwise.nil
  | a :: L, n, p => by
    obtain ⟨n1, n2⟩ := List.nodup_cons.mp n
    obtain ⟨p1, p2⟩ := List.pairwise_cons.mp p
    refine List.pairwise_cons.mpr ⟨fun b hb => ?_, strict_of n2 p2⟩
    cases e : lexI a b with
    | true => rfl
    | false =>
      have h := p1 b hb
      unfold leI at h
      rw [Bool.not_eq_true'] at h
      have := lexI_tri e h
      subst this
      exact absurd hb n1
theorem sort_strict {L : List (List Int)} (n : L.Nodup) : (L.mergeSort leI).Pairwise (fun a b => lexI a b = true) :=
  strict_of ((List.mergeSort_perm L leI).nodup_iff.mpr n) (List.pairwise_mergeSort (fun a b c => leI_trans a b c) (fun a b => leI_total a b) L)
theorem setI_strict (L : List (List Int)) : (setI L).Pairwise (fun a b => lexI a b = true) := sort_strict (nodup_dups _ L (Nat.le_refl _))
theorem mem_setI {L : List (List Int)} {l : List Int} : l ∈ setI L ↔ l ∈ L := by
  unfold setI
  rw [(List.mergeSort_perm _ _).mem_iff, List.mem_eraseDups]
theorem dups_len {α : Type} [BEq α] [LawfulBEq α] : ∀ (n : Nat) (xs : List α), xs.length ≤ n → xs.eraseDups.length ≤ xs.length
  | _, [], _ => by simp
  | 0, x :: xs, h => by simp at h
  | n + 1, x :: xs, h => by
    rw [List.eraseDups_cons, List.length_cons, List.length_cons]
    have h1 := List.length_filter_le (fun b => !b == x) xs
    have h2 := dups_len n (xs.filter fun b => !b == x) (Nat.le_trans h1 (by simpa using h))
    omega
theorem setI_len (L : List (List Int)) : (setI L).length ≤ L.length := by
  unfold setI
  rw [List.length_mergeSort]
  exact dups_len _ L (Nat.le_refl _)
theorem intsD_map : ∀ l : List Int, intsD (l.map PyData.int) = some l
  | [] => rfl
  | x :: l => by simp [intsD, intsD_map l]
theorem itsD_map : ∀ L : List (List Int), itsD (L.map tupI) = some L
  | [] => rfl
  | l :: L => by
    rw [List.map_cons]
    unfold itsD isIT
    simp [intsD_map, itsD_map L]
theorem sortSet_tups {L : List (List Int)} (h : ∀ l ∈ L, l ≠ []) (h2 : L.length < 64) : sortSetD (.list (L.map tupI)) = some (.list ((setI L).map tupI)) := by
  unfold sortSetD
  simp only [itsD_map]
  rw [if_pos ⟨by rw [List.length_map]; exact h2, srtOk_tups h⟩]
/-- a strictly sorted row is the one of its set -/
theorem setI_of_strict {L : List (List Int)} (h : L.Pairwise (fun a b => lexI a b = true)) : setI L = L := by
  have n : L.Nodup := h.imp fun {a b} q e => by
    subst e
    rw [lexI_irrefl] at q
    cases q
  refine sorted_one (le := leI) (fun a b => leI_anti) ?_ (List.pairwise_mergeSort (fun a b c => leI_trans a b c) (fun a b => leI_total a b) _) (h.imp fun {a b} q => by unfold leI; rw [lexI_asymm q]; rfl)
  exact (List.mergeSort_perm _ _).trans (perm_dups n (fun _ q => q) fun _ q => q).symm

/-! ### dicts with int keys and int values -/
abbrev ii (p : Int × Int) : D × D := (.int p.1, .int p.2)
def putI (qs : List (Int × Int)) (k v : Int) : List (Int × Int) := if qs.any (fun p => decide (p.1 = k)) = true then qs.map (fun p => if p.1 = k then (p.1, v) else p) else qs ++ [(k, v)]
theorem kIs_int (k : Int) (p : Int × Int) : kIs (.int k) (ii p) = decide (p.1 = k) := by
  unfold kIs
  simp [keyD]
theorem dPut_ii (qs : List (Int × Int)) (k v : Int) : dPut (qs.map ii) (.int k) (.int v) = (putI qs k v).map ii := by
  unfold dPut putI
  have e : (qs.map ii).any (kIs (.int k)) = qs.any fun p => decide (p.1 = k) := by
    rw [List.any_map]
    congr 1
    funext p
    exact kIs_int k p
  rw [e]
  split
  · rw [List.map_map, List.map_map]
    refine List.map_congr_left fun p _ => ?_
    simp only [Function.comp, kIs_int, decide_eq_true_eq]
    split <;> rfl
  · simp
theorem putI_nodup {qs : List (Int × Int)} {k v : Int} (n : (qs.map (·.1)).Nodup) : ((putI qs k v).map (·.1)).Nodup := by
  unfold putI
  split
  · rw [List.map_map]
    have : ((fun p : Int × Int => p.1) ∘ fun p => if p.1 = k then (p.1, v) else p) = fun p => p.1 := by
      funext p
      simp only [Function.comp]
      split <;> rfl
    rw [this]
    exact n
  · rename_i c
    rw [List.map_append, List.nodup_append]
    refine ⟨n, by simp, ?_⟩
    intro a ha b hb
    simp only [List.map_cons, List.map_nil, List.mem_singleton] at hb
    subst hb
    rintro rfl
    obtain ⟨p, hp, e⟩ := List.mem_map.mp ha
    exact c (List.any_eq_true.mpr ⟨p, hp, decide_eq_true e⟩)
theorem putI_mem {qs : List (Int × Int)} {k v : Int} {p : Int × Int} (h : p ∈ putI qs k v) : p ∈ qs ∨ p = (k, v) := by
  unfold putI at h
  split at h
  · obtain ⟨q, hq, e⟩ := List.mem_map.mp h
    split at e
    · rename_i c
      exact .inr (by rw [← e, c])
    · exact .inl (e ▸ hq)
  · rcases List.mem_append.mp h with q | q
    · exact .inl q
    · exact .inr (List.mem_singleton.mp q)
theorem dMerge_ii : ∀ (more acc : List (Int × Int)), (acc.map (·.1)).Nodup → ∃ rs : List (Int × Int), dMerge (acc.map ii) (more.map ii) = rs.map ii ∧ (rs.map (·.1)).Nodup ∧ (∀ p ∈ rs, p ∈ acc ∨ p ∈ more) ∧ rs.length ≤ acc.length + more.length
  | [], acc, n => ⟨acc, rfl, n, fun p h => .inl h, Nat.le_refl _⟩
  | q :: more, acc, n => by
    obtain ⟨rs, h1, h2, h3, h4⟩ := dMerge_ii more (putI acc q.1 q.2) (putI_nodup n)
    refine ⟨rs, ?_, h2, fun p hp => ?_, ?_⟩
    · show dMerge (dPut (acc.map ii) (.int q.1) (.int q.2)) (more.map ii) = _
      rw [dPut_ii, h1]
    · rcases h3 p hp with z | z
      · rcases putI_mem z with y | y
        · exact .inl y
        · exact .inr (by rw [y]; exact List.mem_cons_self)
      · exact .inr (List.mem_cons_of_mem _ z)
    · have := dPut_len (acc.map ii) (.int q.1) (.int q.2)
      rw [dPut_ii, List.length_map, List.length_map] at this
      rw [List.length_cons]
      omega
theorem pairsD_ii : ∀ L : List (Int × Int), pairsD (L.map fun p => tupI [p.1, p.2]) = some (L.map ii)
  | [] => rfl
  | p :: L => by
    rw [List.map_cons]
    have : keyOk (.int p.1) = true := by simp [keyOk, keyD, NestedKey.depth]
    show ((if keyOk (.int p.1) = true then some (PyData.int p.1, PyData.int p.2) else none).bind fun q => (pairsD (L.map fun p => tupI [p.1, p.2])).map fun l => q :: l) = _
    rw [if_pos this, pairsD_ii L]
    rfl
/-- sorted(dict(pairs).items()) -/
theorem sortItems_ii (L : List (Int × Int)) : ∃ rs : List (List Int), ((dictD [.list (L.map fun p => tupI [p.1, p.2])]).bind sortItemsD) = some (.list (rs.map tupI)) ∧ rs.Pairwise (fun a b => lexI a b = true) ∧ (∀ r ∈ rs, ∃ p ∈ L, r = [p.1, p.2]) ∧ rs.length ≤ L.length := by
  obtain ⟨qs, h1, h2, h3, h4⟩ := dMerge_ii L [] List.nodup_nil
  have e : (qs.map ii).map pairT = (qs.map fun p => [p.1, p.2]).map tupI := by
    rw [List.map_map, List.map_map]
    rfl
  have ok : srtOk ((qs.map ii).map pairT) = true := by
    rw [e]
    refine srtOk_tups fun l hl => ?_
    obtain ⟨p, _, rfl⟩ := List.mem_map.mp hl
    exact fun z => nomatch z
  have nd : (qs.map fun p => [p.1, p.2]).Nodup := by
    refine List.pairwise_map.mpr ((List.pairwise_map.mp h2).imp fun {a b} q z => ?_)
    simp only [List.cons.injEq, and_true] at z
    exact q z.1
  refine ⟨(qs.map fun p => [p.1, p.2]).mergeSort leI, ?_, sort_strict nd, fun r hr => ?_, ?_⟩
  · unfold dictD
    simp only
    rw [pairsD_ii]
    show (some (PyData.dict (dMerge [] (L.map ii)))).bind sortItemsD = _
    have h1' : dMerge [] (L.map ii) = qs.map ii := h1
    rw [h1']
    show sortItemsD (.dict (qs.map ii)) = _
    unfold sortItemsD
    simp only
    rw [if_pos ok, e, sortL_tups]
  · have := (List.mergeSort_perm _ _).mem_iff.mp hr
    obtain ⟨p, hp, rfl⟩ := List.mem_map.mp this
    exact ⟨p, (h3 p hp).resolve_left (fun z => nomatch z), rfl⟩
  · rw [List.length_mergeSort, List.length_map]
    simpa using h4
theorem lt_tupI (a b : List Int) : ltD (tupI a) (tupI b) = some (.bool (lexI a b)) := by
  unfold ltD
  rw [if_pos (by
    simp only [PySem.W.alike, alike_ints, notNone, okD, depth_tupI, Bool.and_self, Bool.true_and]
    decide), dataLt_tupI]
theorem boolsD_map : ∀ l : List Bool, boolsD (l.map PyData.bool) = some l
  | [] => rfl
  | x :: l => by simp [boolsD, boolsD_map l]
theorem allD_map (l : List Bool) : allD [.list (l.map PyData.bool)] = some (.bool (l.all id)) := by
  unfold allD
  simp [boolsD_map]
theorem at_int {l : List Int} {i : Nat} {x : Int} (h : l[i]? = some x) : L2.atI (l.map PyData.int) (i : Int) = some (.int x) := by
  refine atI_nat (j := i) ?_
  rw [List.getElem?_map, h]
  rfl
theorem for_find {g : GF} {body : SF} {d : D} (I : Ev → Prop) (bad : D → Bool) : ∀ (xs : List D) (env : Ev), (∀ x ∈ xs, ∀ env, I env → ∃ e1, g x env = some e1 ∧ (bad x = true → ∃ e2, body e1 = .ok (.rt d, e2)) ∧ (bad x = false → ∃ e2, body e1 = .ok (.nx, e2) ∧ I e2)) → I env →
    (xs.any bad = true → ∃ e2, forL g body xs env = .ok (.rt d, e2)) ∧ (xs.any bad = false → ∃ e2, forL g body xs env = .ok (.nx, e2) ∧ I e2)
  | [], env, _, h => ⟨fun z => by simp at z, fun _ => ⟨env, rfl, h⟩⟩
  | x :: xs, env, step, h => by
    obtain ⟨e1, h1, h2, h3⟩ := step x List.mem_cons_self env h
    cases hb : bad x with
    | true =>
      obtain ⟨e2, h4⟩ := h2 hb
      refine ⟨fun _ => ⟨e2, ?_⟩, fun z => by simp [hb] at z⟩
      unfold forL
      rw [h1]
      simp only [h4, Out.bind_ok]
    | false =>
      obtain ⟨e2, h4, h5⟩ := h3 hb
      obtain ⟨k1, k2⟩ := for_find I bad xs e2 (fun y hy => step y (List.mem_cons_of_mem _ hy)) h5
      have e : forL g body (x :: xs) env = forL g body xs e2 := by
        conv => lhs; unfold forL
        rw [h1]
        simp only [h4, Out.bind_ok]
      rw [e]
      simp only [List.any_cons, hb, Bool.false_or]
      exact ⟨k1, k2⟩
theorem eqv_ints : ∀ a b : List Int, PyData.eqvAll (a.map PyData.int) (b.map PyData.int) = decide (a = b)
  | [], [] => by simp [PyData.eqvAll]
  | [], _ :: _ => by simp [PyData.eqvAll]
  | _ :: _, [] => by simp [PyData.eqvAll]
  | x :: a, y :: b => by
    rw [List.map_cons, List.map_cons, PyData.eqvAll, eqv_ints a b]
    simp only [PyData.eqv]
    rw [Bool.eq_iff_iff]
    simp
theorem eqv_tups : ∀ a b : List (List Int), PyData.eqvAll (a.map tupI) (b.map tupI) = decide (a = b)
  | [], [] => by simp [PyData.eqvAll]
  | [], _ :: _ => by simp [PyData.eqvAll]
  | _ :: _, [] => by simp [PyData.eqvAll]
  | x :: a, y :: b => by
    rw [List.map_cons, List.map_cons, PyData.eqvAll, eqv_tups a b]
    simp only [PyData.eqv, eqv_ints]
    rw [Bool.eq_iff_iff]
    simp
theorem plain_ints : ∀ a : List Int, PyData.plainAll (a.map PyData.int) = true
  | [] => by simp [PyData.plainAll]
  | x :: a => by simp [PyData.plainAll, PyData.plain, plain_ints a]
theorem plain_tups : ∀ a : List (List Int), PyData.plainAll (a.map tupI) = true
  | [] => by simp [PyData.plainAll]
  | x :: a => by
    rw [List.map_cons, PyData.plainAll, plain_tups a]
    simp [PyData.plain, plain_ints]
theorem depth_tups : ∀ L : List (List Int), PyData.depthAll (L.map tupI) ≤ 1
  | [] => by simp [PyData.depthAll]
  | x :: L => by
    have := depth_tups L
    rw [List.map_cons, PyData.depthAll, depth_tupI]
    omega
theorem ne_tups (a b : List (List Int)) : neD (.list (a.map tupI)) (.list (b.map tupI)) = some (.bool (decide (a ≠ b))) := by
  unfold neD
  have h1 : okD (.list (a.map tupI)) (.list (b.map tupI)) = true := by
    unfold okD
    have := depth_tups a
    have e : (PyData.list (a.map tupI)).depth = PyData.depthAll (a.map tupI) + 1 := by simp only [PyData.depth]
    refine decide_eq_true (Nat.le_trans (Nat.min_le_left _ _) ?_)
    rw [e]
    omega
  rw [if_pos (by simp [PyData.plain, plain_tups, h1])]
  refine congrArg (fun b => some (PyData.bool b)) ?_
  simp only [PyData.eqv, eqv_tups]
  rw [Bool.eq_iff_iff]
  simp
end DP
set_option Elab.async false
set_option linter.all false
set_option maxRecDepth 100000
namespace DP
open PySem
mutual
/-- plain data without a dict, its ints under a trillion -/
def nc : D → Bool
  | .none | .bool _ => true
  | .int i => decide (i.natAbs < 10 ^ 12)
  | .str x => x.cps.toList.all fun c => decide (c < 16 ^ 8)
  | .list xs | .tuple xs => ncAll xs
  | .dict _ => false
def ncAll : List D → Bool
  | [] => true
  | x :: xs => nc x && ncAll xs
end
theorem log_small {i : Int} (h : i.natAbs < 10 ^ 12) : i.natAbs.log2 < 1920 := by
  by_cases h0 : i.natAbs = 0
  · rw [h0]; decide
  · have h2 : i.natAbs.log2 < 40 := (Nat.log2_lt h0).mpr (Nat.lt_trans h (by decide))
    omega
mutual
theorem nc_show : ∀ d : D, nc d = true → d.showable = true ∧ d.hasDict = false ∧ d.leavesShort 13 = true ∧ d.plain = true ∧ PySem.W.alike d d = true
  | .none, _ => by simp [PyData.showable, PyData.hasDict, PyData.leavesShort, PyData.plain, PySem.W.alike]
  | .bool _, _ => by simp [PyData.showable, PyData.hasDict, PyData.leavesShort, PyData.plain, PySem.W.alike]
  | .int i, h => by
    have h' : i.natAbs < 10 ^ 12 := by simpa only [nc, decide_eq_true_eq] using h
    refine ⟨?_, rfl, ?_, ?_, ?_⟩
    · simp only [PyData.showable, decide_eq_true_eq]; exact log_small h'
    · simp only [PyData.leavesShort, decide_eq_true_eq]; exact PyData.shown_int_le h'
    · simp [PyData.plain]
    · simp [PySem.W.alike]
  | .str x, h => by
    refine ⟨by simp [PyData.showable], by simp [PyData.hasDict], ?_, by simp [PyData.plain], by simp [PySem.W.alike]⟩
    simp only [nc] at h
    simp only [PyData.leavesShort]
    exact h
  | .list xs, h => by
    simp only [nc] at h
    have := nc_showAll xs h
    simpa only [PyData.showable, PyData.hasDict, PyData.leavesShort, PyData.plain, PySem.W.alike] using this
  | .tuple xs, h => by
    simp only [nc] at h
    have := nc_showAll xs h
    simpa only [PyData.showable, PyData.hasDict, PyData.leavesShort, PyData.plain, PySem.W.alike] using this
  | .dict _, h => by simp [nc] at h
theorem nc_showAll : ∀ xs : List D, ncAll xs = true → PyData.showableAll xs = true ∧ PyData.hasDictAll xs = false ∧ PyData.leavesShortAll 13 xs = true ∧ PyData.plainAll xs = true ∧ PySem.W.alikeAll xs xs = true
  | [], _ => by simp [PyData.showableAll, PyData.hasDictAll, PyData.leavesShortAll, PyData.plainAll, PySem.W.alikeAll]
  | x :: xs, h => by
    simp only [ncAll, Bool.and_eq_true] at h
    obtain ⟨a1, a2, a3, a4, a5⟩ := nc_show x h.1
    obtain ⟨b1, b2, b3, b4, b5⟩ := nc_showAll xs h.2
    simp only [PyData.showableAll, PyData.hasDictAll, PyData.leavesShortAll, PyData.plainAll, PySem.W.alikeAll, a1, a2, a3, a4, a5, b1, b2, b3, b4, b5, Bool.and_self, Bool.or_self, and_self]
end
theorem repr_nc {d : D} (h : nc d = true) (h1 : d.depth ≤ 60) (h2 : d.bulk ≤ 1048576) : reprD [d] = some (.str d.shown) := by
  obtain ⟨a1, a2, a3, a4, a5⟩ := nc_show d h
  have c : d.showable = true ∧ d.hasDict = false ∧ d.depth ≤ 60 ∧ d.shown.length ≤ sizeLine := ⟨a1, a2, h1, PyData.shown_fits_bulk (B := 13) (by decide) (by decide) a3 (by simpa using h2)⟩
  exact if_pos c
theorem ne_nc {d : D} (h : nc d = true) (h1 : d.depth ≤ 60) : neD d d = some (.bool false) := by
  obtain ⟨a1, a2, a3, a4, a5⟩ := nc_show d h
  unfold neD
  have : okD d d = true := by unfold okD; simp [h1]
  rw [a4, this, PySem.W.eqv_refl_alike d a5]
  rfl
theorem nc_int {i : Int} (h1 : -1000000000000 < i) (h2 : i < 1000000000000) : nc (.int i) = true := by
  simp only [nc, decide_eq_true_eq]
  omega
theorem ncAll_iff : ∀ {xs : List D}, ncAll xs = true ↔ ∀ x ∈ xs, nc x = true
  | [] => by simp [ncAll]
  | x :: xs => by simp [ncAll, ncAll_iff (xs := xs)]
theorem nc_tuple {xs : List D} (h : ∀ x ∈ xs, nc x = true) : nc (.tuple xs) = true := by
  simp only [nc]; exact ncAll_iff.mpr h
theorem nc_list {xs : List D} (h : ∀ x ∈ xs, nc x = true) : nc (.list xs) = true := by
  simp only [nc]; exact ncAll_iff.mpr h
theorem depthAll_le {n : Nat} : ∀ {xs : List D}, (∀ x ∈ xs, x.depth ≤ n) → PyData.depthAll xs ≤ n
  | [], _ => by simp [PyData.depthAll]
  | x :: xs, h => by
    simp only [PyData.depthAll]
    have h1 := h x List.mem_cons_self
    have h2 := depthAll_le (xs := xs) fun y hy => h y (List.mem_cons_of_mem _ hy)
    omega
theorem depth_tuple {n : Nat} {xs : List D} (h : ∀ x ∈ xs, x.depth ≤ n) : (PyData.tuple xs).depth ≤ n + 1 := by
  have := depthAll_le h
  simp only [PyData.depth]; omega
theorem depth_list {n : Nat} {xs : List D} (h : ∀ x ∈ xs, x.depth ≤ n) : (PyData.list xs).depth ≤ n + 1 := by
  have := depthAll_le h
  simp only [PyData.depth]; omega
theorem bulkAll_le {n : Nat} : ∀ {xs : List D}, (∀ x ∈ xs, x.bulk ≤ n) → PyData.bulkAll xs ≤ xs.length * (n + 1)
  | [], _ => by simp [PyData.bulkAll]
  | x :: xs, h => by
    simp only [PyData.bulkAll, List.length_cons, Nat.add_mul]
    have h1 := h x List.mem_cons_self
    have h2 := bulkAll_le (xs := xs) fun y hy => h y (List.mem_cons_of_mem _ hy)
    omega
theorem bulk_tuple {n : Nat} {xs : List D} (h : ∀ x ∈ xs, x.bulk ≤ n) : (PyData.tuple xs).bulk ≤ xs.length * (n + 1) := by
  simp only [PyData.bulk]; exact bulkAll_le h
theorem bulk_list {n : Nat} {xs : List D} (h : ∀ x ∈ xs, x.bulk ≤ n) : (PyData.list xs).bulk ≤ xs.length * (n + 1) := by
  simp only [PyData.bulk]; exact bulkAll_le h
end DP
set_option Elab.async false
set_option linter.all false
set_option maxRecDepth 100000
set_option maxHeartbeats 2000000
/-! DP, part 25: an own error class whose __init__ says super().__init__(at); self.at = at. -/
namespace DP
open PySem PySem.W PySem.Calls PyProof.Rows

def neA (p1 p2 : Pos) : Arguments := { posonlyargs := [], args := [{ arg := "self", annotation := none, pos := p1 }, { arg := "at", annotation := none, pos := p2 }], vararg := none, kwonlyargs := [], kw_defaults := [], kwarg := none, defaults := [] }
def neB (q1 q2 q3 q4 q5 q6 r1 r2 r3 r4 : Pos) : List Stmt :=
  [.Expr (.Call (.Attribute (.Call (.Name "super" q1) [] [] q2) "__init__" q3) [.Name "at" q4] [] q5) q6, .Assign [.Attribute (.Name "self" r1) "at" r2] (.Name "at" r3) r4]
def neS : Scope := { kind := .function, names := [(PySem.Str.ofString "self", .local), (PySem.Str.ofString "at", .local), (PySem.Str.ofString "__class__", .free), (PySem.Str.ofString "super", .globalImplicit)], isGenerator := false, isCoroutine := false, more := [] }
/-- what the written part says of the base class, at B, and of its __init__, at f -/
structure NetB (P : Program) (K : Frag) (mg : Str → Option Value) (B f : Addr) : Prop where
  fn : ∃ (oc : Value) (od : Option Addr) (kV doc pm : Value) (an : Option Addr) (cda : Addr) (ct : Value) (cc : Addr) (osl : Array (Option Value)) (p1 p2 q1 q2 q3 q4 q5 q6 r1 r2 r3 r4 : Pos),
    K.lookup f = some ⟨oc, od, .func (ksFn "__init__" "NetError.__init__" (neA p1 p2) (neB q1 q2 q3 q4 q5 q6 r1 r2 r3 r4) neS .none kV doc pm an (.ref cda) ct cc), osl⟩ ∧ (q3.endLine == q5.line) = true ∧ codeIn K (.ref cda) "NetError.__init__" = true ∧
    (∃ (ccl : Value) (cdd : Option Addr) (vs : Array Value) (ccs : Array (Option Value)) (file : Str) (tf : Tok), K.lookup cda = some ⟨ccl, cdd, .fields vs, ccs⟩ ∧ vs[2]? = some (.str file tf) ∧ ((P.main.file : Str) == file) = true) ∧
    ∃ (cl : Value) (cld : Option Addr) (csl : Array (Option Value)), K.lookup cc = some ⟨cl, cld, .cell (some (.ref B)), csl⟩
  cB : ∃ cd, clsIn K B = some cd
  sup : mg "super" = none
  tp : nsIn K cStatics "thirdparty.any" = some none
  top : (P.main.scope.names.lookup ("super" : Str)).isSome = false
  tI : typeIn K (.ref f) = some (.type "function")
/-- .. and of a class of errors, at C: the base class itself or one below it -/
structure NetC (K : Frag) (B f C : Addr) : Prop where
  cls : ∃ nm q N bs bm sn sub ab col dd k0 k1 k2 k3 k5, K.lookup C = some (excClassObj nm q C N bs bm true sn sub ab col dd k0 k1 k2 k3 k5 "ValueError.__new__") ∧ HandSPX.refsVE bm = true
  sa : findIn K (.ref C) "__setattr__" = some (some (.builtin "object.__setattr__"))
  ga : findIn K (.ref C) "__getattribute__" = some (some (.builtin "BaseException.__getattribute__"))
  gg : findIn K (.ref C) "__getattr__" = some none
  noN : findIn K (.ref C) "at" = some none
  iC : findIn K (.ref C) "__init__" = some (some (.ref f))
  kC : keepIn K (.ref C) = true
  exC : subIn K (.ref C) (.type "BaseException") = some true
  veC : subIn K (.ref C) (.type "ValueError") = some true
  tyC : typeIn K (.ref C) = some (.type "type")
  hdC : hasDictIn K C = true
  mB : mroIn K C (.ref B) = some true
  su : ks_superIn K C B "__init__" = some (some (.builtin "ValueError.__init__"))

theorem ne_meth (env : Env) (q1 q2 q3 q4 q5 : Pos) (hp : (q3.endLine == q5.line) = true) : ∃ pl : Sem Bool, eval (.Call (.Attribute (.Call (.Name "super" q1) [] [] q2) "__init__" q3) [.Name "at" q4] [] q5) env = (do
      let ov ← attributeBase (.Call (.Name "super" q1) [] [] q2) "__init__" env (eval (.Call (.Name "super" q1) [] [] q2) env)
      standAt q3.atName
      let (f, first) ← holding [ov] (getMethod ov "__init__" pl)
      callWith q5 f first (backTo q5 (starEach [.Name "at" q4] env)) []) := by
  have e1 : methodCallPos true (.Call (.Name "super" q1) [] [] q2) env q3 q5 = pure q5 := by
    unfold methodCallPos
    rw [hp]
    rfl
  refine ⟨(do return (← importBound (.Call (.Name "super" q1) [] [] q2) env).getD true), ?_⟩
  have e2 : ∀ ov, methodCall (.Call (.Name "super" q1) [] [] q2) "__init__" q3 q5 env ov 1 (backTo q5 (starEach [.Name "at" q4] env)) [] = (do
      let (f, first) ← holding [ov] (getMethod ov "__init__" (do return (← importBound (.Call (.Name "super" q1) [] [] q2) env).getD true))
      callWith q5 f first (backTo q5 (starEach [.Name "at" q4] env)) []) := fun ov => by
    unfold methodCall
    have e3 : methodCallForm 1 (backTo q5 (starEach [.Name "at" q4] env)) [] = true := by first | rfl | decide
    rw [e3, e1]
    rfl
  show (do
      let ov ← attributeBase (.Call (.Name "super" q1) [] [] q2) "__init__" env (eval (.Call (.Name "super" q1) [] [] q2) env)
      standAt q3.atName
      methodCall (.Call (.Name "super" q1) [] [] q2) "__init__" q3 q5 env ov 1 (backTo q5 (starEach [.Name "at" q4] env)) []) = _
  simp only [e2]
/-- a local name, read -/
theorem ne_local {M : Model} {A : Around} {E : Value → Shared → Prop} {s : Shared} {env : Env} {m : Str → Option Value} {x : Str} {pos : Pos} {v : Value} {Q : Value → Shared → Prop} (hn : s.heap.Ns env.locals m) (hv : m x = some v) (h : Q v s)
    (hk : env.scope.kind = .function) (hl : env.kindOf x = some .local) (hd : (x == ("__debug__" : Str)) = false) : wpAny M A (eval (.Name x pos) env) Q E s := wpAny_Name (wpAny_loadName_local hk hl hn hv h) hd
section
variable {prog : Program} {w : World} {A : Around} {E : Value → Shared → Prop} {h : Heap} {g : Array GenState} {d : Drawn} {t : Nat} {os : OsState}
/-- the bound built-in __init__, called -/
theorem ne_bound {nm q : Str} {C N : Addr} {bs bm : List Value} {hdct : Bool} {sn : List Str} {sub : List Value} {ab : Bool} {col : Option Bool} {dd : Option Addr} {k0 k1 k2 k3 k5 : Option Value} {u e t0 : Addr} {us : List Value} {Q : Value → Shared → Prop}
    (hC : h.get? C = some (excClassObj nm q C N bs bm hdct sn sub ab col dd k0 k1 k2 k3 k5 "ValueError.__new__")) (he : h.get? e = some (HandSPX.excO C t0)) (hu : h.get? u = some (kxs_mw "ValueError.__init__" e)) (hz : us.length ≤ sizeLine)
    (hq : ∀ h' t1, (∀ b o, b ≠ e → h.get? b = some o → h'.get? b = some o) → h'.get? e = some (HandSPX.excO C t1) → Q .none ⟨h', g, d, t, os⟩) :
    wpAny (model prog w) A (call (.ref u) us) Q E ⟨h, g, d, t, os⟩ := by
  refine wpAny_call (codeAny_of_tree (show wpAny _ A.in1 (callAny (.ref u) ⟨us, []⟩) _ _ _ from ?_))
  unfold callAny
  refine wpAny_bind (wpAny_load hu ?_)
  have c1 : (Value.type "method-wrapper" == Value.type "method" || Value.type "method-wrapper" == Value.type "builtin_function_or_method" || Value.type "method-wrapper" == Value.type "method-wrapper") = true := by decide
  simp only [kxs_mw, c1, if_true]
  refine KFB.if_so (by decide) (wpAny_bind ?_)
  refine check_bound_init F.excBase_ValueError.toExcCallFacts hC he rfl ?_
  refine wpAny_bind (wpAny_pure (wpAny_pure ⟨plainId_quiet F.excBase_ValueError.init.plain _, codeAny_builtin F.excBase_ValueError.initEntry ?_⟩))
  rw [Around.under_plainId F.excBase_ValueError.init.plain _]
  wp_walk
  refine hq _ h.objs.size (fun b o n z => ?_) ?_
  · rw [Heap.get?_update_other _ _ (Ne.symm n)]; exact Heap.get?_push_of_some _ z
  · rw [Heap.get?_update_self _ (Heap.get?_push_of_some _ he) rfl]; rfl
end
/-- what __init__ leaves of a fresh exception at x -/
structure NeEnd (h h' : Heap) (x C dx t1 : Addr) (v : Value) : Prop where
  keep : ∀ b o, b ≠ x → h.get? b = some o → h'.get? b = some o
  obj : h'.get? x = some { cls := .ref C, dict := some dx, data := .fields #[.ref t1, .none, .none, .none, .bool false, .none] }
  dbig : h.objs.size ≤ dx
  dne : dx ≠ x
  ns : h'.Ns1 dx (fun y => if y = "at" then some v else none)
section
variable {prog : Program} {w : World} {A : Around} {E : Value → Shared → Prop} {R : Result → Shared → Prop} {s : Shared} {K : Frag} {mg mb : Str → Option Value} {B f C : Addr}
theorem size_le {h h' : Heap} (k : ∀ b o, h.get? b = some o → h'.get? b = some o) {b : Addr} {o : Obj} (n : h'.get? b = some o) (q : ∀ b o, h.get? b = some o → b < h'.objs.size) : b < h'.objs.size := Heap.lt_size n
theorem net_init (T : NetB prog K mg B f) (TC : NetC K B f C) {x t0 : Addr} {v : Value} (X : K.In s.heap) (G : s.heap.Ns mainGlobals mg) (Gb : s.heap.Ns builtinsNs mb) (hb : mb "super" = some (.type "super")) (hlim : s.heap.NoLimit)
    (hx : s.heap.get? x = some (HandSPX.excO C t0)) (hnx : K.lookup x = none) (hroom : A.depth < recursionLimit) (hq : ∀ h' tk dx t1, NeEnd s.heap h' x C dx t1 v → R (.ok (.ret .none)) { s with heap := h', toks := tk }) :
    codeAny (model prog w) A (.call (.ref f) ⟨[.ref x, v], []⟩) R s := by
  obtain ⟨oc, od, kV, doc, pm, an, cda, ct, cc, osl, p1, p2, q1, q2, q3, q4, q5, q6, r1, r2, r3, r4, ho, hql, hcd, ⟨ccl, cdd, vs, ccs, file, tf, hcode, hvs, hfile⟩, cl, cld, csl, hcell⟩ := T.fn
  obtain ⟨nm, q, N, bs, bm, sn, sub, ab, col, dd, k0, k1, k2, k3, k5, hC, hbm⟩ := TC.cls
  obtain ⟨cdB, hB⟩ := T.cB
  have hcl : clsIn K C = some { name := nm, bases := bs, mro := .ref C :: bm, ns := N, qualname := q, hasDict := true, slotNames := sn, subclasses := sub, abstract := ab, collection := col, hasDel := false } := by unfold clsIn; rw [hC] <;> rfl
  refine ks_codeAny_call_defAt (fd := ksFn "__init__" "NetError.__init__" (neA p1 p2) (neB q1 q2 q3 q4 q5 q6 r1 r2 r3 r4) neS .none kV doc pm an (.ref cda) ct cc) (binds := [("self", .ref x), ("at", v)]) hroom (X _ _ ho) rfl hlim (codeRec_of X hcd) rfl
    (BindsTo.of_eq (by first | rfl | with_unfolding_all rfl)) (show ∀ y ∈ neS.names, y.2 ≠ .cell by decide) (locs rfl) (fun h₁ hns k => ?_) rfl rfl rfl
  have X₁ : K.In h₁ := X.keeps k
  have hx₁ := k _ _ hx
  have G₁ := G.keeps k
  have Gb₁ := Gb.keeps k
  have hL : s.heap.objs.size < h₁.objs.size := hns.lt
  have hxL : x < s.heap.objs.size := Heap.lt_size hx
  obtain ⟨oB, hoB, hoB2⟩ : ∃ oB, h₁.get? B = some oB ∧ oB.data = .cls cdB := by
    unfold clsIn at hB
    split at hB
    · rename_i c d cd' sl z
      cases hB
      exact ⟨_, X₁ _ _ z, rfl⟩
    · cases hB
  have I₁ : InstAt h₁ x (HandSPX.excO C t0) C none := ⟨hx₁, rfl, rfl, trivial⟩
  have hxC : x ≠ C := ks_ne X₁ I₁ hcl
  obtain ⟨hp0, g, d, tk, os⟩ := s
  generalize henv : callEnv (ksFn "__init__" "NetError.__init__" (neA p1 p2) (neB q1 q2 q3 q4 q5 q6 r1 r2 r3 r4) neS .none kV doc pm an (.ref cda) ct cc) hp0.objs.size f = env
  have henv' : env = ksEnv "NetError.__init__" neS hp0.objs.size f (.ref cda) cc := by rw [← henv]; rfl
  subst henv'
  obtain ⟨pl, hpl⟩ := ne_meth (ksEnv "NetError.__init__" neS hp0.objs.size f (.ref cda) cc) q1 q2 q3 q4 q5 hql
  refine ks_wpAt_execs_cons (ks_wpAt_Expr_any (ks_wpAt_MethodCall ?_ hpl))
  refine ks_wpAt_super_base (env := ksEnv "NetError.__init__" neS hp0.objs.size f (.ref cda) cc) (by first | rfl | with_unfolding_all rfl | kernel_rfl) (by first | rfl | with_unfolding_all rfl | kernel_rfl) (by decide) rfl (X₁ _ _ ho) rfl (ar := { arg := "self", annotation := none, pos := p1 }) rfl rfl (X₁ _ _ hcode) rfl hvs hfile T.top ?_
  refine ks_loadName_global rfl (by first | rfl | with_unfolding_all rfl | kernel_rfl) (loadGlobal_builtin G₁ T.sup Gb₁ hb ⟨rfl, ?_⟩)
  refine wpAny_loadName_free rfl (by first | rfl | with_unfolding_all rfl | kernel_rfl) (by first | rfl | with_unfolding_all rfl | kernel_rfl) ⟨_, X₁ _ _ hcell, rfl⟩ ?_
  refine wpAny_loadName_local rfl (by first | rfl | with_unfolding_all rfl | kernel_rfl) hns (v := .ref x) (by first | rfl | with_unfolding_all rfl | kernel_rfl) ?_
  refine ks_wpAny_isType_cls hoB hoB2 ⟨rfl, ?_⟩
  refine ks_wpAny_call_super hoB hoB2 hx₁ rfl (fun c e => by cases e) (looks_mroIn X₁ TC.mB) (fun h₂ e₂ k₂ => ?_)
  have X₂ : K.In h₂ := X₁.keeps k₂
  have hsu := TC.su
  unfold ks_superIn at hsu
  rw [hcl] at hsu
  have hI₂ : Looks (model prog w) h₂ (isInstance (.ref x) (.type "ValueError")) true := (show InstAt h₂ x (HandSPX.excO C t0) C none from ⟨k₂ _ _ hx₁, rfl, rfl, trivial⟩).type.andThen (looks_subIn X₂ TC.veC)
  refine kxs_getMethod kxs_ValueError e₂ (looks_opaque X₂ T.tp) (l₀ := .ref C :: bm) (fun A Q E s k q => wpAny_bind ((looks_clsIn X₂ hcl) A _ E s k (wpAny_pure q))) rfl X₂ hsu hI₂ hxC (by decide) ?_
  have hu₃ : (h₂.push (kxs_mw "ValueError.__init__" x)).get? h₂.objs.size = some (kxs_mw "ValueError.__init__" x) := Heap.get?_push_at rfl rfl
  have k₃ : ∀ b o, h₁.get? b = some o → (h₂.push (kxs_mw "ValueError.__init__" x)).get? b = some o := fun b o z => Heap.get?_push_of_some _ (k₂ b o z)
  refine kxs_callWith (i := "ValueError.__init__") (x := x) rfl (evalArgs_plain (spliced_cons (ne_local (hns.keeps k₃) (v := v) (by first | rfl | with_unfolding_all rfl | kernel_rfl) (spliced_nil ⟨hu₃, ?_⟩) rfl (by first | rfl | with_unfolding_all rfl | kernel_rfl) (by decide))))
  refine ne_bound (X₁.keeps k₃ _ _ hC) (k₃ _ _ hx₁) hu₃ (by rw [sizeLine_eq]; exact (by decide : 1 ≤ 16777216)) fun h₄ t1 k₄ hx₄ => ?_
  -- self.at = at
  have hk₄ : ∀ b o, b ≠ x → h₁.get? b = some o → h₄.get? b = some o := fun b o n z => k₄ b o n (k₃ b o z)
  have nLx : hp0.objs.size ≠ x := Nat.ne_of_gt hxL
  have hns₄ : h₄.Ns hp0.objs.size (fun y => ([("self", Value.ref x), ("at", v)] : List (Str × Value)).reverse.lookup y) := by
    obtain ⟨oL, es, ep, z, r⟩ := hns
    exact ⟨oL, es, ep, hk₄ _ _ nLx z, r⟩
  have X₄ : K.In h₄ := fun a o z => hk₄ a o (fun e => by rw [e] at z; exact absurd (hnx.symm.trans z) (fun y => nomatch y)) (X₁ _ _ z)
  refine ks_wpAt_execs_cons (ks_wpAt_Assign_Attr (wpAt_of_wpAny ?_) ?_)
  rotate_left
  · first | rfl | with_unfolding_all rfl
  refine ne_local hns₄ (v := v) (by first | rfl | with_unfolding_all rfl | kernel_rfl) ?_ rfl (by first | rfl | with_unfolding_all rfl | kernel_rfl) (by decide)
  refine ne_local hns₄ (v := .ref x) (by first | rfl | with_unfolding_all rfl | kernel_rfl) ?_ rfl (by first | rfl | with_unfolding_all rfl | kernel_rfl) (by decide)
  refine set_plain X₄ (ox := HandSPX.excO C t1) (od := none) ⟨hx₄, rfl, rfl, trivial⟩ TC.sa ?_
  refine HandSPX.exc_osa X₄ hx₄ hcl (show HandSPX.refsVE (.ref C :: bm) = true from hbm) rfl TC.noN (fun h₅ tk₅ dx k₅ dn dne hx₅ hn₅ => ?_)
  refine wpAt_of_wpAny (wpAny_execs_nil ?_)
  refine hq h₅ tk₅ dx t1 ⟨fun b o n z => k₅ b o n (hk₄ b o n (k b o z)), hx₅, ?_, dne, hn₅⟩
  have z : hp0.objs.size < h₄.objs.size := hns₄.lt
  exact Nat.le_of_lt (Nat.lt_of_lt_of_le z dn)
end
end DP
set_option Elab.async false
set_option linter.all false
set_option maxRecDepth 100000
/-! DP, part 26: own errors raised, and caught by several clauses `except C as e: return ..`. -/
namespace DP
open PySem PySem.Spec PyProof.Rows L2

/-- a made own error -/
structure NeMade (h h' : Heap) (e C d : Addr) (v : Value) : Prop where
  keep : ∀ b o, h.get? b = some o → h'.get? b = some o
  new : h.objs.size ≤ e
  obj : ∃ oe vs, h'.get? e = some oe ∧ oe.cls = .ref C ∧ oe.dict = some d ∧ oe.data = .fields vs ∧ vs[1]? = some .none
  dbig : h.objs.size ≤ d
  dne : d ≠ e
  ns : h'.Ns1 d (fun y => if y = "at" then some v else none)
section
variable {prog : Program} {w : World} {A : Around} {R : Result → Shared → Prop} {s : Shared} {K : PySem.W.Frag} {mg mb : Str → Option Value} {B f C : Addr}
theorem net_made (T : NetB prog K mg B f) (TC : NetC K B f C) {v : Value} (X : K.In s.heap) (G : s.heap.Ns mainGlobals mg) (Gb : s.heap.Ns builtinsNs mb) (hb : mb "super" = some (.type "super")) (hlim : s.heap.NoLimit)
    (hroom : A.depth + 1 < recursionLimit) (hq : ∀ h' tk e d, NeMade s.heap h' e C d v → R (.ok (.ret (.ref e))) { s with heap := h', toks := tk }) : codeAny (model prog w) A (.call (.ref C) ⟨[v], []⟩) R s := by
  obtain ⟨nm, q, N, bs, bm, sn, sub, ab, col, dd, k0, k1, k2, k3, k5, hC, hbm⟩ := TC.cls
  obtain ⟨hp, g, dr, tk, os⟩ := s
  have k : ∀ b o, hp.get? b = some o → ((hp.push (PySem.W.kdv_tup [v])).push (HandSPX.excO C hp.objs.size)).get? b = some o := fun _ _ e => Heap.get?_push_of_some _ (Heap.get?_push_of_some _ e)
  have hge : ((hp.push (PySem.W.kdv_tup [v])).push (HandSPX.excO C hp.objs.size)).get? (hp.objs.size + 1) = some (HandSPX.excO C hp.objs.size) := by heap_get
  have hnx : K.lookup (hp.objs.size + 1) = none := by
    cases e : K.lookup (hp.objs.size + 1) with
    | none => rfl
    | some o =>
      exact absurd (Heap.lt_size (show hp.get? (hp.objs.size + 1) = some o from X _ _ e)) (Nat.not_lt_of_le (Nat.le_succ _))
  have one : ([v] : List Value).length ≤ sizeLine := by rw [sizeLine_eq]; exact (by decide : 1 ≤ 16777216)
  refine HandSPX.call_own F.excBase_ValueError (fun Y => HandSPX.refsVE_contains Y bm hbm) (X _ _ hC) (PySem.W.looks_findIn X TC.iC) (fun self => PySem.W.bind_fn X self T.tI) one ?_
  refine net_init (s := ⟨(hp.push (PySem.W.kdv_tup [v])).push (HandSPX.excO C hp.objs.size), g, dr, tk, os⟩) T TC (X.keeps k) (G.keeps k) (Gb.keeps k) hb (hlim.keeps k) hge hnx ?_ fun h' tk' dx t1 E => ?_
  · show A.depth + 1 < recursionLimit; exact hroom
  · have sz : ((hp.push (PySem.W.kdv_tup [v])).push (HandSPX.excO C hp.objs.size)).objs.size = hp.objs.size + 2 := by simp [Heap.size_push]
    have z := E.dbig
    rw [sz] at z
    exact ⟨rfl, hq h' tk' (hp.objs.size + 1) dx ⟨fun b o y => E.keep b o (Nat.ne_of_lt (Nat.lt_succ_of_lt (Heap.lt_size y))) (k b o y), Nat.le_succ _, ⟨_, _, E.obj, rfl, rfl, rfl, rfl⟩, Nat.le_trans (Nat.le_add_right hp.objs.size 2) z, E.dne, E.ns⟩⟩
end
theorem boot_super : bootBuiltins "super" = some (.type "super") := by first | rfl | kernel_rfl | boot_by_name
theorem rel_at {v : V} {u : Value} (r : RelV v u) (y : Str) : RelO (List.lookup y [(("at" : Str), v)]) (if y = "at" then some u else none) := by
  by_cases hw : y = "at"
  · subst hw; simp only [if_true, List.lookup, beq_self_eq_true]; exact r
  · have qw : (y == ("at" : Str)) = false := by simpa using hw
    simp only [if_neg hw, List.lookup, qw]; trivial
def tMkNet (C : Addr) (ta : TA) : L2.St → Hp → XK → Prop := fun σ H Q => ta σ H fun vs H1 => ∃ v, vs = [v] ∧ ∀ d, H1 d = none → Q (.ref C) (some d) (upd H1 d (.xd [(("at" : Str), v)]))
section
variable {X : Cx} {B f C : Addr}
theorem pmk_net {x : Str} {a : Expr} {ta : TA} {p pos : Pos} {k : Nat} (T : NetB X.prog X.K X.mg B f) (TC : NetC X.K B f C) (gC : X.mg x = some (.ref C)) (hr : Room k X.A) (ha : PA X [a] ta) (hg : Gl X x) (hdb : (x == ("__debug__" : Str)) = false := by decide)
    (he : starEach (a :: []) X.env = (false, eval a X.env) :: starEach [] X.env := by rfl) (hpl : (backTo pos (starEach [] X.env)).any (·.1) = false := by rfl) : PMk X (.Call (.Name x p) [a] [] pos) (tMkNet C ta) := by
  intro pins s σ H Q I h
  refine wpAny_Call_Name_kw (ld_glob I hg gC ?_ hdb)
  refine PySem.W.callWith_K (h₀ := X.base) I.ok.mod.kin TC.kC (thn (ha.run pos pins s σ H _ I h) fun us s1 ⟨vs, H1, I1, r1, v, ev, q1⟩ => ⟨I1.kIn, ?_⟩) he hpl
  subst ev
  cases r1 with
  | @cons _ v' _ us' rv rn =>
    cases rn
    have hlim := I1.nolimit
    obtain ⟨mb, hb1, hb2⟩ := I1.mod.blt
    have G1 := I1.mod.glob.keeps I1.bk
    have Gb1 := hb1.keeps I1.bk
    have hb := (hb2 "super" (by decide)).trans boot_super
    obtain ⟨hp, g, dr, tk, os⟩ := s1
    refine wpAny_call (net_made T TC I1.kIn G1 Gb1 hb hlim (by have := hr.dp; omega) fun h' tk' e d M => (show MkP X pins σ Q (.ref e) ⟨h', g, dr, tk', os⟩ from ?_))
    obtain ⟨oe, fv, hoe, hc, hd, hdat, h1⟩ := M.obj
    obtain ⟨G', g1, g2⟩ := restrict h' fun b => decide (b ≠ e)
    have gk : ∀ b, b ≠ e → G'.get? b = h'.get? b := fun b hb => g1 b (decide_eq_true hb)
    have ge : G'.get? e = none := g2 e (by simp)
    have old : ∀ b o, hp.get? b = some o → G'.get? b = some o := fun b o q => (gk b (Nat.ne_of_lt (Nat.lt_of_lt_of_le (Heap.lt_size q) M.new))).trans (M.keep b o q)
    have ob : ObjOk X.prog X.w (upd H1 d (.xd [(("at" : Str), v)])) G' d (.xd [(("at" : Str), v)]) := ⟨_, M.ns.at (fun o q => (gk d M.dne).trans q), rel_at rv⟩
    have J : Inv X pins σ (upd H1 d (.xd [(("at" : Str), v)])) ⟨G', g, dr, tk', os⟩ := I1.laid (t' := tk') old M.dbig ob
    refine ⟨e, oe, fv, ⟨G', g, dr, tk', os⟩, _, .ref C, some d, rfl, J, fun b o q => ?_, ge, hoe, ⟨hc, hd⟩, hdat, h1, ?_, rfl, I1.bare, raises_own TC.exC TC.tyC, q1 d (I1.hok.fresh M.dbig)⟩
    · by_cases hb : b = e
      · rw [hb] at q; exact absurd (ge.symm.trans q) (fun z => nomatch z)
      · exact (gk b hb).symm.trans q
    · rw [upd_ne (Ne.symm M.dne)]; exact I1.hok.fresh M.new
/-- raise C(a) -/
def sRaise (x : Str) (f : XF) : SF := fun env => (f env).bind fun r => .exc x r.1 r.2
theorem es_raise {Wx : WX} {x : Str} {a : Expr} {g : XF} {p pos pos2 : Pos} {k : Nat} (T : NetB X.prog X.K X.mg B f) (TC : NetC X.K B f C) (gC : X.mg x = some (.ref C)) (hc : X.calm = true) (hr : Room k X.A) (tk : Takes X Wx) (ha : EX X Wx a g) (hg : Gl X x)
    (hdb : (x == ("__debug__" : Str)) = false := by decide) (he : starEach (a :: []) X.env = (false, eval a X.env) :: starEach [] X.env := by rfl) (hpl : (backTo pos (starEach [] X.env)).any (·.1) = false := by rfl) :
    ES X Wx (.Raise (some (.Call (.Name x p) [a] [] pos)) none pos2) (sRaise x g) := by
  have m := pmk_net (p := p) (pos := pos) T TC gC hr (ea_cons ha ea_nil he) hg hdb he hpl
  refine PS.wk (ps_raise (pos := pos2) hc tk m) ?_
  rintro D σ H ⟨ρ, W, env, A, S, h⟩
  unfold sRaise at h
  refine ⟨ρ, W, env, A, S, ?_⟩
  unfold aCons aNil
  cases e : g env with
  | bad => rw [e] at h; exact h.elim
  | exc c d e' =>
    rw [e] at h
    exact fun C W' H' A' dx v q S' F' x r' => h C W' H' A' _ dx v q S' F' x r'
  | ok r =>
    obtain ⟨d, e1⟩ := r
    rw [e] at h
    simp only [Out.bind_ok] at h ⊢
    intro W1 H1 A1 vs S1 F1 r1
    simp only [RepL] at r1
    obtain ⟨v, _, rfl, r1, rfl⟩ := r1
    refine ⟨v, rfl, fun dx n => ?_⟩
    have E := Ex.junk (o := .xd [(("at" : Str), v)]) S1.sub n
    exact h C W1 _ A1 σ dx v gC (S1.ex E) (F1.trans (E.fr _)) upd_same (Rep.mono E.ext d v r1)
end
end DP
set_option Elab.async false
set_option linter.all false
set_option maxRecDepth 100000
/-! DP, part 27: several clauses `except C as e: suite`. -/
namespace DP
open PySem PySem.Spec PyProof.Rows L2

abbrev TSu := Addr → Value → Option Addr → TS
/-- what is wanted behind a suite: its name is gone -/
def offName (i : Nat) (D : Ends) : Ends := { nx := fun σ' H' => D.nx (σ'.set i none) H', rt := D.rt, bk := fun σ' H' => D.bk (σ'.set i none) H', ct := fun σ' H' => D.ct (σ'.set i none) H' }
/-- what the clauses want of an exception of the body -/
def wAll (K : PySem.W.Frag) (Wout : WX) (D : Ends) : List (Value × Nat × TSu) → WX
  | [] => Wout
  | (c, i, ts) :: r => fun cls d σ H => ∃ b, PySem.W.exmOne K cls c = some b ∧ (b = true → ∀ a, H a = none → ts a cls d (offName i D) (σ.set i (some (.ref a))) H) ∧ (b = false → wAll K Wout D r cls d σ H)
inductive HdA (X : Cx) : List ExceptHandler → List (Value × Nat × TSu) → Prop
  | nil : HdA X [] []
  | cons {x n : Str} {i : Nat} {c : Value} {ts : TSu} {b₀ : Stmt} {su : List Stmt} {np pos' : Pos} {hds : List ExceptHandler} {l : List (Value × Nat × TSu)} (hi : X.N[i]? = some n) (hl : X.env.kindOf n = some .local) (hc : Names X x c)
      (hsu : ∀ (a : Addr) (oe : Obj) (cls : Value) (d : Option Addr) (pn : List (Addr × Obj)), Zc cls d oe → (∃ vs, oe.data = .fields vs) → PSs (X.suite a ((a, oe) :: pn)) (b₀ :: su) (ts a cls d)) (r : HdA X hds l) :
      HdA X (.ExceptHandler (some (.Name x np)) (some n) (b₀ :: su) pos' :: hds) ((c, i, ts) :: l)
section
variable {X : Cx} {body : List Stmt} {h₀ : ExceptHandler} {hds : List ExceptHandler} {l : List (Value × Nat × TSu)} {pos : Pos} {tb : WX → TS} {Wout : WX}
theorem ps_try_all (hs : X.stack = X.env :: X.outer) (hf : X.env.frame = some X.env.locals) (hN : X.N.Nodup) (tk : Takes X Wout)
    (hb : ∀ (W : WX) (pn : List (Addr × Obj)) (xe : Value → Shared → Prop), Takes (X.tr pn xe) W → PassesOwn (model X.prog X.w) X.A X.env xe → PSs (X.tr pn xe) body (tb W))
    (hh : HdA X (h₀ :: hds) l) : PS X (.Try body (h₀ :: hds) [] [] pos) (fun D σ H => tb (wAll X.K Wout D l) D σ H) := by
  refine ⟨fun pins s σ H D I h => ?_⟩
  have ok := I.ok
  have hfr : X.A.frames = some (X.env :: X.outer) := by rw [ok.frames, hs]
  refine wpAny_Try_except (wpAny_mono ((hb (wAll X.K Wout D l) (X.pn ++ pins) (fun e z₁ => wpAny (model X.prog X.w) X.A (noteFrame e X.env) (fun _ z₂ => wpAny (model X.prog X.w) X.A (setFlight e none)
    (fun _ z₃ => wpAny (model X.prog X.w) X.A (handleBy e X.env (h₀ :: hds)) (SP X pins D) X.xe z₃) X.xe z₂) X.xe z₁) (fun u s' air => ?_) PassesOwn.looking).run [] s σ H D (I.toTry _) h) (fun fl s1 fin => ?_) fun _ _ z => z)
  · -- caught
    obtain ⟨a, Bh, sI, pins', σ', H', cls, d, rfl, J', nb, up, sky, na, os, ag, want⟩ := air
    have J := J'.ofTry ok
    have sky' : Sky Bh (X.env :: X.outer) a (Zc cls d) X.env.locals s'.heap := hs ▸ sky
    refine (Sky.land Zc.steady hfr hf sky' fun g3 f3 u3 => ?_ : wpAny (model X.prog X.w) X.A (noteFrame (.ref a) X.env) _ _ _)
    have J3 : Inv X pins σ' H' { s' with heap := g3 } := J.landed nb f3.1 (up.trans u3) os ag
    obtain ⟨o3, v3, he3, hz3, hd3⟩ := f3.there
    have away : a ∉ frs (X.env :: X.outer) := fun hm => by
      obtain ⟨_, o', e', nf⟩ := f3.2.2.1.mem hm
      rw [he3] at e'; cases e'
      exact nf _ hd3
    have nL : a ≠ X.env.locals := fun z => away (List.mem_filterMap.mpr ⟨X.env, List.mem_cons_self, by rw [hf, z]⟩)
    have nF : a ∉ X.fs := fun hm => by
      obtain ⟨y, hy, q⟩ := List.mem_filterMap.mp hm
      exact away (List.mem_filterMap.mpr ⟨y, List.mem_cons_of_mem _ hy, q⟩)
    have S3 := J3.suite he3 hd3 na nL nF
    have go : ∀ {hs' : List ExceptHandler} {l' : List (Value × Nat × TSu)}, HdA X hs' l' → wAll X.K Wout D l' cls d σ' H' → wpAny (model X.prog X.w) X.A (handleBy (.ref a) X.env hs') (SP X pins D) X.xe { s' with heap := g3 } := by
      intro hs' l' hk
      induction hk with
      | nil =>
        intro want
        obtain ⟨_, _, _, oe, vs, T, oT, ts', he, hz, hd, h1, _⟩ := id f3
        have last : wpAny (model X.prog X.w) X.A (setFlight (.ref a) X.env.frame) (fun _ s4 => wpAny (model X.prog X.w) X.A (throw (.ref a) : Sem Flow) (SP X pins D) X.xe s4) X.xe { s' with heap := g3 } := by
          rw [hf]
          exact HandSPX.setFlight_upZ f3 fun g4 hh4 u4 => wpAny_throw (tk _ _ ⟨a, Bh, sI, pins, σ', H', cls, d, rfl, J, nb, (up.trans u3).trans u4, .inr (.inr (by rw [hs]; exact hh4)), na, os, ag, want⟩)
        refine wpAny_handleBy_nil ?_
        unfold PySem.passOn
        refine wpAny_bind (wpAny_field he hd h1 ?_)
        rw [if_neg (by simp : ¬ ((Value.ref T == Value.none) = true))]
        first
          | exact wpAny_bind (wpAny_pure (wpAny_bind last))
          | exact wpAny_bind last
      | @cons x n i c ts b₀ su np pos' hds2 l2 hi hl hc hsu r ih =>
        intro want
        obtain ⟨b, hb1, yes, no⟩ := want
        have LT : PySem.W.Looks (model X.prog X.w) g3 (typeOf (.ref a)) cls := fun _ _ _ _ k q => wpAny_typeOf_ref (k _ _ he3) (by rw [hz3.1]; exact q)
        have LM := PySem.W.exm_one (M := model X.prog X.w) J3.kIn LT hb1
        have name : ∀ {Q : Value → Shared → Prop} {E : Value → Shared → Prop}, Q c { s' with heap := g3 } → wpAny (model X.prog X.w) (X.A.mark (some (.ref a))) (eval (.Name x np) X.env) Q E { s' with heap := g3 } := fun q => by
          obtain ⟨hg, hdbg, hm | ⟨hm, hv, hnn⟩⟩ := hc
          · exact ld_glob (X := X.suite a ((a, o3) :: (X.pn ++ pins))) S3 hg hm q hdbg
          · exact ld_blt (X := X.suite a ((a, o3) :: (X.pn ++ pins))) S3 hg hm hv q hnn hdbg
        refine wpAny_handleBy_cons (codeAny_handlers_test (name (LM.here ?_))) (fun q => by cases q)
        cases b with
        | false => exact (ih (no rfl) : wpAny _ X.A (handleBy (.ref a) X.env hds2) _ _ _)
        | true =>
          refine codeAny_handlers_suite_as (HandSPX.lands_againZ f3 fun g4 f4 u4 => ?_)
          have J4 : Inv X pins σ' H' { s' with heap := g4 } := J.landed nb f4.1 ((up.trans u3).trans u4) os ag
          obtain ⟨o4, v4, he4, hz4, hd4⟩ := f4.there
          refine store_ok (X := X.suite a ((a, o4) :: (X.pn ++ pins))) (v := .ref a) (J4.suite he4 hd4 na nL nF) hN hi (.inl hl) rfl (fun s5 S5 => ?_) (.inr hl)
          have off : ∀ {σ6 : L2.St} {H6 : Hp} {s6 : Shared} {Q : Shared → Prop}, Inv (X.suite a ((a, o4) :: (X.pn ++ pins))) [] σ6 H6 s6 → (∀ s7, Inv X pins (σ6.set i none) H6 s7 → Q s7) →
              wpAny (model X.prog X.w) X.A (do bindName X.env n .none; unbindBehindTheSuite X.env n pos') (fun _ s7 => Q s7) X.xe s6 := fun S6 hq => gone_ok (S6.unsuite ok) hN hi hl hq
          refine wpAny_mono ((hsu a o4 cls d (X.pn ++ pins) hz4 ⟨_, hd4⟩).run [] s5 _ H' _ S5 (yes rfl a na)) (fun fl s6 fin => ?_) (fun _ _ z => False.elim z)
          cases fl with
          | ret u =>
            obtain ⟨v6, σ6, H6, S6, r6, q6⟩ := fin
            exact off S6 fun s7 J7 => ⟨_, _, _, J7, r6, q6⟩
          | next =>
            obtain ⟨σ6, H6, S6, q6⟩ := fin
            exact off S6 fun s7 J7 => ⟨_, _, J7, q6⟩
          | brk =>
            obtain ⟨σ6, H6, S6, q6⟩ := fin
            exact off S6 fun s7 J7 => ⟨_, _, J7, q6⟩
          | cont =>
            obtain ⟨σ6, H6, S6, q6⟩ := fin
            exact off S6 fun s7 J7 => ⟨_, _, J7, q6⟩
    exact go hh want
  · cases fl with
    | ret u => exact let ⟨v, σ', H', J', r, q⟩ := fin; ⟨v, σ', H', J'.ofTry ok, r, q⟩
    | next => exact let ⟨σ', H', J', q⟩ := fin; wpAny_execs_nil ⟨σ', H', J'.ofTry ok, q⟩
    | brk => exact let ⟨σ', H', J', q⟩ := fin; ⟨σ', H', J'.ofTry ok, q⟩
    | cont => exact let ⟨σ', H', J', q⟩ := fin; ⟨σ', H', J'.ofTry ok, q⟩
end
end DP
set_option Elab.async false
set_option linter.all false
set_option maxRecDepth 100000
/-! DP, part 28: try .. except C as e: return e.at, or return (word, e.at). -/
namespace DP
open PySem PySem.Spec PyProof.Rows L2

/-- a clause: the name's slot, the classes that it takes, those that it lets by, what it returns -/
structure Hd where
  i : Nat
  ys : List Str
  ns : List Str
  k : D → D
def catchs : List Hd → Str → D → Ev → Out (Fl × Ev)
  | [], c, d, e => .exc c d e
  | h :: r, c, d, e => if h.i < e.length then (if h.ys.contains c then .ok (.rt (h.k d), e) else if h.ns.contains c then catchs r c d e else .bad) else .bad
def sTry (b : SF) (hs : List Hd) : SF := fun env => match b env with
  | .exc c d e => catchs hs c d e
  | .ok r => .ok r
  | .bad => .bad
/-- what a suite has at hand -/
def wSu (K : PySem.W.Frag) (w : World) (k : D → D) (i : Nat) : TSu := fun a cls d Dn σ H => ∃ B f C dd v W dat, cls = .ref C ∧ NetC K B f C ∧ d = some dd ∧ H dd = some (.xd [(("at" : Str), v)]) ∧ σ[i]? = some (some (.ref a)) ∧ Same W H ∧ Rep K w W dat v ∧
  ∀ W' H' u, Ex W H W' H' → Rep K w W' (k dat) u → Dn.rt u H'
def Su (X : Cx) (i : Nat) (st : List Stmt) (k : D → D) : Prop := ∀ (a : Addr) (oe : Obj) (cls : Value) (d : Option Addr) (pn : List (Addr × Obj)), Zc cls d oe → (∃ vs, oe.data = .fields vs) → PSs (X.suite a ((a, oe) :: pn)) st (wSu X.K X.w k i a cls d)
section
variable {X : Cx} {a : Addr} {oe : Obj} {cls : Value} {d : Option Addr} {pn : List (Addr × Obj)} {e : Expr} {te : TE} {pos : Pos}
/-- e.at -/
theorem pe_eAt (hz : Zc cls d oe) (hf : ∃ vs, oe.data = .fields vs) (he : PE (X.suite a ((a, oe) :: pn)) e te) (hb : attributeBase e "at" X.env (eval e X.env) = eval e X.env := by rfl) :
    PE (X.suite a ((a, oe) :: pn)) (.Attribute e "at" pos) (fun σ H Q => te σ H fun x H1 => x = .ref a ∧ ∃ B f C dd v, cls = .ref C ∧ NetC X.K B f C ∧ d = some dd ∧ H1 dd = some (.xd [(("at" : Str), v)]) ∧ Q v H1) := by
  refine ⟨fun pins s σ H Q I h => attr_of hb (thn (he.run pins s σ H _ I h) fun u s1 ⟨x, H1, I1, rx, ex, B, f, C, dd, v, ec, T, ed, ea, q⟩ => ?_)⟩
  subst ex ec ed
  obtain rfl : u = Value.ref a := rx
  obtain ⟨ha, _⟩ := I1.pin (a, oe) (List.mem_append_left _ List.mem_cons_self)
  obtain ⟨vs, hd⟩ := hf
  obtain ⟨mA, hns, hr⟩ := (I1.hok dd _ ea : ObjOk X.prog X.w H1 s1.heap dd (.xd [(("at" : Str), v)]))
  obtain ⟨od, ho, hl⟩ := lookIn_ns hns
  have l : List.lookup ("at" : Str) [(("at" : Str), v)] = some v := by simp [List.lookup]
  obtain ⟨u, hu, ru⟩ := RelO.some_of (v := v) (o := mA "at") (by rw [← l]; exact hr "at")
  refine HandSPX.exc_get I1.kIn (od := some od) ⟨ha, hz.1, by unfold PySem.W.notCls; rw [hd] <;> rfl, by rw [hz.2]; exact ho⟩ T.ga T.gg T.exC (PySem.W.findObj_own T.hdC T.noN rfl (by rw [hl, hu])) (handed_of ru) ⟨v, H1, I1.tok _, ru, q⟩
end
section
variable {X : Cx} {i : Nat} {n : Str} {p1 p2 p3 p4 p5 : Pos} {k0 j0 : Nat} {y : Str}
theorem su_at (hv : PE X (.Name n p1) (tVar i)) (pv : ∀ a oe pn, PE (X.suite a ((a, oe) :: pn)) (.Name n p1) (tVar i)) : Su X i [.Return (some (.Attribute (.Name n p1) "at" p2)) p3] (fun d => d) := by
  intro a oe cls d pn hz hf
  refine PSs.wk (pss_one (ps_ret (pe_eAt hz hf (pv a oe pn) rfl))) ?_
  rintro Dn σ H ⟨B, f, C, dd, v, W, dat, e1, e2, e3, e4, e5, e6, e7, e8⟩
  exact ⟨_, e5, rfl, B, f, C, dd, v, e1, e2, e3, e4, e8 W H v (Ex.refl e6) e7⟩
theorem su_pair (pv : ∀ a oe pn, PE (X.suite a ((a, oe) :: pn)) (.Name n p1) (tVar i)) :
    Su X i [.Return (some (.Tuple [.Constant (.str y) j0 p4, .Attribute (.Name n p1) "at" p2] k0 p5)) p3] (fun d => .tuple [.str y, d]) := by
  intro a oe cls d pn hz hf
  refine PSs.wk (pss_one (ps_ret (pe_tup (pa_cons pe_str (pa_cons (pe_eAt hz hf (pv a oe pn) rfl) pa_nil rfl) rfl)))) ?_
  rintro Dn σ H ⟨B, f, C, dd, v, W, dat, e1, e2, e3, e4, e5, e6, e7, e8⟩
  refine ⟨_, e5, rfl, B, f, C, dd, v, e1, e2, e3, e4, ?_, fun p n => ?_⟩
  · rw [sizeLine_eq]; exact (by decide : 2 ≤ 16777216)
  · have E := Ex.one (o := .tup [.str y, v]) e6 n
    refine e8 _ _ _ E ?_
    simp only [Rep]
    exact ⟨p, _, rfl, .of upd_same, RepL.cons (by simp only [Rep]) (RepL.cons (Rep.mono E.ext dat v e7) RepL.nil)⟩
end
inductive HdD (X : Cx) : List ExceptHandler → List Hd → List (Value × Nat × TSu) → Prop
  | nil : HdD X [] [] []
  | cons {x n : Str} {i : Nat} {c : Value} {ys ns : List Str} {k : D → D} {b₀ : Stmt} {su : List Stmt} {np pos' : Pos} {hds : List ExceptHandler} {hs : List Hd} {l : List (Value × Nat × TSu)} (hi : X.N[i]? = some n) (hl : X.env.kindOf n = some .local) (hc : Names X x c)
      (hys : ∀ y ∈ ys, ∃ B f C, X.mg y = some (.ref C) ∧ NetC X.K B f C ∧ PySem.W.exmOne X.K (.ref C) c = some true) (hns : ∀ y ∈ ns, ∃ C, X.mg y = some (.ref C) ∧ PySem.W.exmOne X.K (.ref C) c = some false)
      (hsu : Su X i (b₀ :: su) k) (r : HdD X hds hs l) : HdD X (.ExceptHandler (some (.Name x np)) (some n) (b₀ :: su) pos' :: hds) (⟨i, ys, ns, k⟩ :: hs) ((c, i, wSu X.K X.w k i) :: l)
section
variable {X : Cx} {Wx : WX} {body : List Stmt} {h₀ : ExceptHandler} {hds : List ExceptHandler} {hs : List Hd} {l : List (Value × Nat × TSu)} {pos : Pos} {b : SF}
theorem HdD.hdA (h : HdD X hds hs l) : HdA X hds l := by
  induction h with
  | nil => exact .nil
  | cons hi hl hc _ _ hsu _ ih => exact .cons hi hl hc (fun a oe cls d pn => hsu a oe cls d pn) ih
theorem HdD.want {ρ : Nat → Addr} {W H W' H' : Hp} {A A' : List (List Addr)} {c : Str} {d : D} {e : Ev} {Dn : Ends} {C dx : Addr} {σ' : L2.St} {v : V} (gC : X.mg c = some (.ref C)) (S : SR X.K X.w ρ W' H' e σ' A') (F : Fr W H (ownd A) W' H' (ownd A'))
    (hx : H' dx = some (.xd [(("at" : Str), v)])) (r : Rep X.K X.w W' d v) (h : HdD X hds hs l) : onS X Wx ρ W H A (catchs hs c d e) Dn → wAll X.K Wx Dn l (.ref C) (some dx) σ' H' := by
  induction h with
  | nil => exact fun q => q C W' H' A' σ' dx v gC S F hx r
  | @cons x n i c' ys ns k b₀ su np pos' hds hs l hi hl hc hys hns hsu _ ih =>
    intro q
    unfold catchs at q
    split at q
    · rename_i lt
      split at q
      · rename_i y
        obtain ⟨B, f, C', g1, T, x1⟩ := hys c (by simpa using y)
        rw [gC] at g1; cases g1
        refine ⟨true, x1, fun _ a n => ?_, fun z => nomatch z⟩
        refine ⟨B, f, C, dx, v, W', d, rfl, T, rfl, hx, List.getElem?_set_self (by rw [← S.le]; exact lt), S.sub, r, fun W2 H2 u E ru => ?_⟩
        exact q W2 H2 A' σ' (S.ex E) (F.trans (E.fr _)) u ru
      · split at q
        · rename_i y
          obtain ⟨C', g1, x1⟩ := hns c (by simpa using y)
          rw [gC] at g1; cases g1
          exact ⟨false, x1, (fun z => nomatch z), fun _ => ih q⟩
        · exact q.elim
    · exact q.elim
theorem es_try (hs1 : X.stack = X.env :: X.outer) (hf : X.env.frame = some X.env.locals) (hN : X.N.Nodup) (tk : Takes X Wx)
    (hb : ∀ (W : WX) (pn : List (Addr × Obj)) (xe : Value → Shared → Prop), Takes (X.tr pn xe) W → PassesOwn (model X.prog X.w) X.A X.env xe → EB (X.tr pn xe) W body b)
    (hh : HdD X (h₀ :: hds) hs l) : ES X Wx (.Try body (h₀ :: hds) [] [] pos) (sTry b hs) := by
  refine PS.wk (ps_try_all (tb := fun W => tS X W b) hs1 hf hN tk hb hh.hdA) ?_
  rintro Dn σ H ⟨ρ, W, env, A, S, h⟩
  refine ⟨ρ, W, env, A, S, ?_⟩
  unfold sTry at h
  cases e : b env with
  | bad => rw [e] at h; exact h.elim
  | ok r => rw [e] at h; exact h
  | exc c d e' =>
    rw [e] at h
    exact fun C W' H' A' σ' dx v g S' F' x r' => hh.want g S' F' x r' h
end
end DP
set_option Elab.async false
set_option linter.all false
set_option maxRecDepth 100000
/-! DP, part 29: set(xs) of a list of ints; sorted(set(xs)) of it. -/
namespace DP
open PySem PySem.Spec PyProof.Rows L2
/-- an empty set, just made -/
abbrev set0 (w : World) : Obj := { cls := .type "set", dict := none, data := .set #[] 0 (.fresh 0 0 (!w.params.followText "set-order")) }
section
variable {P : Program} {w : World} {A : Around} {E : Value → Shared → Prop} {s : Shared}
set_option maxHeartbeats 3200000 in
theorem set_lstI {l : Addr} {its : Array Value} (ns : List Int) {Q : Value → Shared → Prop} (calm : A.handled = none) (hl : s.heap.IsList l its) (hi : IntsAre its.toList ns) (hb : ns.length + 1 < scanBound)
    (h : ∀ (h' : Heap) (tk c : Nat), SetR w h' s.heap.objs.size (fun j => decide (j ∈ ns)) c → c ≤ ns.length → (∀ b o, s.heap.get? b = some o → h'.get? b = some o) → Q (.ref s.heap.objs.size) { s with heap := h', toks := tk }) :
    wpAny (model P w) A (call (.type "set") [.ref l]) Q E s := by
  have len : its.size = ns.length := by rw [← Array.length_toList]; exact IntsAre.length hi
  obtain ⟨c, tl, hmro⟩ := F.called_set.mro
  have hmade := F.called_set.made; have hsub := F.called_set.sub; have h1 := F.called_set.notType; have h2 := F.called_set.canCreate; have hct := F.typeCall_set_1 (.ref l)
  refine wpAny_call (codeAny_of_tree (show wpAny _ _ (callAny (.type "set") _) _ _ _ from wpAny_pure ⟨Code.quiet_builtin _ (by decide +kernel), codeAny_builtin F.entry_type_call ?_⟩))
  rw [Around.under_plain (weight_type_call_type "set" [.ref l] []) rfl]
  repeat (any_goals (first | assumption | wp_step))
  refine codeAny_mono (code_set_led1 (.ref l) (E := E) (Q₁ := fun ob z => ob = .ref s.heap.objs.size ∧ z = { s with heap := s.heap.push (set0 w) }) ⟨rfl, rfl⟩) fun r z hr => ?_
  cases r with
  | error e => exact hr
  | ok fl =>
    cases fl with
    | ret ob =>
      obtain ⟨rfl, rfl⟩ := hr
      have g0 : (s.heap.push (set0 w)).get? s.heap.objs.size = some (set0 w) := Heap.get?_push_size _ rfl
      have ty : Shared.TypeIs { s with heap := s.heap.push (set0 w) } (.ref s.heap.objs.size) "set" := ⟨_, g0, rfl⟩
      have hli := F.called_set.init.lookup; have hbi := F.called_set.init.bind (.ref s.heap.objs.size)
      repeat (any_goals (first | assumption | wp_step))
      refine codeAny_mono (codeAny_call_builtin (R := wants (fun r z₂ => r = .none ∧ ∃ h' tk c, z₂ = { s with heap := h', toks := tk } ∧ SetR w h' s.heap.objs.size (fun j => decide (j ∈ ns)) c ∧ c ≤ ns.length ∧ (∀ b o, s.heap.get? b = some o → h'.get? b = some o)) E)
        F.called_set.init.plain F.entry_set_init (check_set_init_1 ty ?_)) fun r₂ z₂ hr₂ => ?_
      · obtain ⟨⟨ocls, odict, odata, oslots⟩, hol, hcl, nl, hdl⟩ := hl
        simp only at hcl hdl
        subst hcl hdl
        have hol' : (s.heap.push (set0 w)).get? l = some ⟨.type "list", odict, .seq its nl, oslots⟩ := Heap.get?_push_of_some _ hol
        have hsls := F.sub_list_set; have hslf := F.sub_list_frozenset
        have hne : (Value.type "list" == Value.type "dict") = false := by decide
        have il : (s.heap.push (set0 w)).IsList l its := ⟨_, hol', rfl, nl, rfl⟩
        unfold Builtin.«set.__init__» noKeywords Builtin.Frozenset.updateFrom
        generalize hPI : pyIter = PI
        wp_walk
        subst hPI
        refine wpAny_pyIter_list il (wpAny_bind (wpAny_runValue ?_))
        have lt : l < s.heap.objs.size := Heap.lt_size hol
        have calm3 : A.in1.in1.in1.handled = none := by simp [calm]
        have away : l ≠ (s.heap.push (set0 w)).objs.size := by rw [Heap.size_push]; exact Nat.ne_of_lt (Nat.lt_succ_of_lt lt)
        have notIn : s.heap.objs.size ∉ [(s.heap.push (set0 w)).objs.size, l] := by
          rw [Heap.size_push]; intro q; rcases List.mem_cons.mp q with q | q
          · exact Nat.ne_of_lt (Nat.lt_succ_self _) q
          · exact Nat.ne_of_gt lt (List.mem_singleton.mp q)
        have val : ∀ (i : Nat) (v : Value), its[i]? = some v → ∃ k t, ns[i]? = some k ∧ v = .int k t := fun i v hv => by
          have lt' : i < ns.length := by rw [← len]; exact (Array.getElem?_eq_some_iff.mp hv).1
          obtain ⟨t, e⟩ := PyProof.Rows.IntsAre.int_at hi i v (by rw [Array.getElem?_toList]; exact hv)
          exact ⟨ns[i], t, List.getElem?_eq_getElem lt', by rw [e, List.getD_eq_getElem?_getD, List.getElem?_eq_getElem lt'] <;> rfl⟩
        refine set_update_ints ((Walks.list calm3 _ l away its).toS) s.heap.objs.size notIn ns len hb val (its.size - 0) 0 _ (by omega) (Nat.zero_le _) ⟨⟨_, Heap.get?_push_size _ rfl, rfl, rfl⟩, (il.push _)⟩ ⟨0, Nat.le_refl 0, setR_new_at (Heap.get?_push_of_some _ g0)⟩ ?_
        intro z' c' hm hc' hS'
        obtain ⟨h', g2, d', tk', os'⟩ := z'
        cases (hm.gens : g2 = s.gens); cases (hm.drawn : d' = s.drawn); cases (hm.os : os' = s.os)
        have old : ∀ b o, s.heap.get? b = some o → h'.get? b = some o := fun b o e => by
          have b0 : b < s.heap.objs.size := Heap.lt_size e
          refine hm.heap b o (fun q => ?_) (Heap.get?_push_of_some _ (Heap.get?_push_of_some _ e))
          rcases List.mem_cons.mp q with q | q
          · exact Nat.ne_of_lt b0 q
          · rw [Heap.size_push] at q
            exact Nat.ne_of_lt (Nat.lt_succ_of_lt b0) (List.mem_singleton.mp q)
        rw [len] at hc'
        show wpAny _ _ _ _ _ _
        refine wpAny_pure ?_
        show wpAny _ _ (ret Value.none) _ _ _
        exact wpAny_pure ⟨rfl, h', tk', c', rfl, hS', hc', old⟩
      · cases r₂ with
        | error e => exact hr₂
        | ok fl₂ =>
          cases fl₂ with
          | ret r =>
            obtain ⟨rfl, h', tk, c', rfl, hS', hc', hk'⟩ := hr₂
            repeat (any_goals (first | assumption | wp_step))
            exact h _ _ _ hS' hc' hk'
          | _ => exact hr₂.elim
    | _ => exact hr.elim
end
/-- set(xs) -/
def rSetLI (K : PySem.W.Frag) (w : World) : List V → Hp → VK → Prop := fun xs H Q => ∃ (l : Addr) (ns : List Int), xs = [V.ref l] ∧ SqL K H l (ns.map V.int) ∧ ns.length ≤ 1000 ∧ ∀ p c, H p = none → c ≤ ns.length → Q (.ref p) (upd H p (SetO w p (fun j => decide (j ∈ ns)) c))
theorem cr_setLI {X : Cx} (hc : X.calm = true) : CallR X (.type "set") (rSetLI X.K X.w) := by
  intro pins s σ H xs us Q I r h
  obtain ⟨l, ns, rfl, hl, hf, q⟩ := h
  rw [Vals.ref1 r]
  obtain ⟨its, rv, pl, hz⟩ := I.list hl
  refine set_lstI (P := X.prog) (w := X.w) ns (I.ok.hd hc) pl.isList (by simpa using ints_of_vals rv) (by unfold scanBound; omega) fun h' tk c R hcn k => ?_
  exact ⟨.ref s.heap.objs.size, _, I.laid (t' := tk) k (Nat.le_refl _) (setO_new R), rfl, q _ c (I.hok.fresh (Nat.le_refl _)) hcn⟩
end DP
set_option Elab.async false
set_option linter.all false
set_option maxRecDepth 100000
/-! DP, part 30: sorted(set(ints)); in, not in; is True; enumerate; starred items; a < b < c < d; constants of the module that are tuples; one of several defs, called. -/
namespace DP
open PySem PySem.Spec PyProof.Rows L2

/-! ### sorted(set(xs)) of ints -/
def leZ (a b : Int) : Bool := decide (a ≤ b)
/-- the ints of xs in order, each once -/
def setZ (xs : List Int) : List Int := xs.eraseDups.mergeSort leZ
def sortSetID : D → Option D
  | .list ds => match intsD ds with
    | some ns => if ds.length < 64 then some (.list ((setZ ns).map .int)) else none
    | none => none
  | _ => none
theorem leZ_anti (a b : Int) (h : leZ a b = true) (k : leZ b a = true) : a = b := by
  unfold leZ at *
  exact Int.le_antisymm (of_decide_eq_true h) (of_decide_eq_true k)
theorem setZ_pw (xs : List Int) : (setZ xs).Pairwise (fun a b => leZ a b = true) :=
  List.pairwise_mergeSort (fun a b c h k => by unfold leZ at *; exact decide_eq_true (Int.le_trans (of_decide_eq_true h) (of_decide_eq_true k))) (fun a b => by
    unfold leZ
    rcases Int.le_total a b with h | h
    · rw [decide_eq_true h]; rfl
    · rw [decide_eq_true h, Bool.or_true]) _
theorem mem_setZ {xs : List Int} {a : Int} : a ∈ setZ xs ↔ a ∈ xs := by
  unfold setZ
  rw [(List.mergeSort_perm _ _).mem_iff]
  exact List.mem_eraseDups
theorem setZ_nodup (xs : List Int) : (setZ xs).Nodup := (List.mergeSort_perm _ _).nodup_iff.mpr (nodup_dups _ xs (Nat.le_refl _))
theorem setZ_eq {xs ns : List Int} (h : ns.Pairwise (· < ·)) (m : ∀ k, k ∈ ns ↔ k ∈ xs) : ns = setZ xs := by
  refine sorted_one (le := leZ) leZ_anti ?_ (h.imp fun q => decide_eq_true (Int.le_of_lt q)) (setZ_pw xs)
  exact (List.perm_ext_iff_of_nodup (h.imp fun q => Int.ne_of_lt q) (setZ_nodup xs)).mpr fun k => (m k).trans mem_setZ.symm
def xSortSetI (f : XF) : XF := fun env => (f env).bind fun r => liftO (sortSetID r.1) r.2
section
variable {X : Cx} {Wx : WX}
theorem rep_ints {K : PySem.W.Frag} {w : World} {W : Hp} : ∀ ns : List Int, RepL K w W (ns.map PyData.int) (ns.map V.int)
  | [] => RepL.nil
  | i :: ns => RepL.cons (by simp only [Rep]) (rep_ints ns)
theorem en_sortSetI {e : Expr} {f : XF} {p p2 q pos : Pos} (hc : X.calm = true) (hg : Gl X "sorted") (hm : X.mg "sorted" = none) (hg2 : Gl X "set") (hm2 : X.mg "set" = none) (he : EX X Wx e f)
    (hs : starEach [e] X.env = (false, eval e X.env) :: starEach [] X.env := by rfl) (hs2 : starEach [.Call (.Name "set" p2) [e] [] q] X.env = (false, eval (.Call (.Name "set" p2) [e] [] q) X.env) :: starEach [] X.env := by rfl) :
    EN X Wx (.Call (.Name "sorted" p) [.Call (.Name "set" p2) [e] [] q] [] pos) (xSortSetI f) := by
  have hset : PE X (.Call (.Name "set" p2) [e] [] q) (tCB (rSetLI X.K X.w) (tCons _ tNil)) := pe_callTy (cr_setLI hc) hg2 hm2 (by rfl) (pa_cons he pa_nil hs) (by decide) (by decide) hs (by rfl)
  refine PE.wk (pe_callB (L2.cr_sortedSet hc) hg hm (by rfl) (pa_cons hset pa_nil hs2) (by decide) (by decide) hs2 (by rfl)) ?_
  rintro σ H Q ⟨ρ, W, env, A, S, h⟩
  refine tN_then S h fun d W1 H1 env1 A1 v S1 F1 r1 h1 => ?_
  simp only at h1
  unfold sortSetID at h1
  split at h1
  · rename_i d' ds
    simp only [Rep] at r1
    obtain ⟨a, vs, rfl, q1, l⟩ := r1
    split at h1
    · rename_i ns en
      split at h1
      · rename_i c
        have evs := intsD_rep l en
        subst evs
        have ln : ns.length = ds.length := by rw [← l.len, List.length_map]
        refine ⟨a, ns, rfl, .of (S1.sub _ _ q1), by omega, fun b n hb hn => ?_⟩
        refine ⟨b, _, n, rfl, upd_same, by omega, fun ns' p' pw mm _ hp' => ?_⟩
        have e : ns' = setZ ns := setZ_eq pw fun k => by rw [mm k, decide_eq_true_eq]
        subst e
        have h2 := onW_of S1 h1
        have e2 : Ex W1 H1 W1 (upd H1 b (SetO X.w b (fun j => decide (j ∈ ns)) n)) := Ex.junk S1.sub hb
        have n2 : H1 p' = none := by
          by_cases z : p' = b
          · rw [z]; exact hb
          · rwa [upd_ne z] at hp'
        exact h2 W1 _ p' (e2.trans (Ex.junk (p := p') (o := .lst ((setZ ns).map V.int)) e2.sub hp')) (S1.sub.free n2) ⟨_, upd_same, rep_ints _⟩ n2
      · exact h1.elim
    · exact h1.elim
  · exact h1.elim
end

/-! ### in, not in -/
def inB (x y : D) : Bool := match y with
  | .list ds => ds.any fun z => z.eqv x
  | .tuple ds => ds.any fun z => z.eqv x
  | _ => false
def inOk (x y : D) : Bool := match y with
  | .list ds => PyData.plainAll ds && x.plain && decide (min (PyData.depthAll ds) x.depth ≤ 60)
  | .tuple ds => PyData.plainAll ds && x.plain && decide (min (PyData.depthAll ds) x.depth ≤ 60)
  | _ => false
def inD (x y : D) : Option D := if inOk x y then some (.bool (inB x y)) else none
def ninD (x y : D) : Option D := if inOk x y then some (.bool (!inB x y)) else none
section
variable {X : Cx} {Wx : WX}
theorem op_inD' (hu : X.A.units + 64 < cLine) : OpR X (compareOp .In) (tV2 X.K X.w inD) := by
  refine op_cmpD (b := inB) (fun x y z e => ?_) fun s x y z u v as bs Q e ra rb h => ?_
  · unfold inD at e; split at e <;> cases e; rfl
  · unfold inD at e
    split at e
    · rename_i c
      cases y with
      | list ds =>
        simp only [inOk, Bool.and_eq_true, decide_eq_true_eq] at c
        exact PySem.SeqAt.in_list_data rb ra c.1.1 c.1.2 (by omega) h
      | tuple ds =>
        simp only [inOk, Bool.and_eq_true, decide_eq_true_eq] at c
        exact PySem.SeqAt.in_tuple_data rb ra c.1.1 c.1.2 (by omega) h
      | _ => cases c
    · cases e
theorem op_ninD' (hu : X.A.units + 64 < cLine) : OpR X (compareOp .NotIn) (tV2 X.K X.w ninD) := by
  refine op_cmpD (b := fun x y => !inB x y) (fun x y z e => ?_) fun s x y z u v as bs Q e ra rb h => ?_
  · unfold ninD at e; split at e <;> cases e; rfl
  · unfold ninD at e
    split at e
    · rename_i c
      cases y with
      | list ds =>
        simp only [inOk, Bool.and_eq_true, decide_eq_true_eq] at c
        exact PySem.SeqAt.notIn_list_data rb ra c.1.1 c.1.2 (by omega) h
      | tuple ds =>
        simp only [inOk, Bool.and_eq_true, decide_eq_true_eq] at c
        exact PySem.SeqAt.notIn_tuple_data rb ra c.1.1 c.1.2 (by omega) h
      | _ => cases c
    · cases e
/-! ### is True, is not True: both bools -/
def isBD : D → D → Option D
  | .bool a, .bool b => some (.bool (decide (a = b)))
  | _, _ => none
def isntBD : D → D → Option D
  | .bool a, .bool b => some (.bool (!decide (a = b)))
  | _, _ => none
theorem op_isBD : OpR X (compareOp .Is) (tV2 X.K X.w isBD) := by
  refine OpR.wk L2.op_isBl ?_
  rintro v u H Q ⟨W, x, y, s, r1, r2, h⟩
  unfold isBD at h
  split at h
  · simp only [Rep] at r1 r2
    subst r1 r2
    exact ⟨_, _, rfl, rfl, h.flat s rfl⟩
  · exact h.elim
theorem op_isntBD : OpR X (compareOp .IsNot) (tV2 X.K X.w isntBD) := by
  refine OpR.wk L2.op_notBl ?_
  rintro v u H Q ⟨W, x, y, s, r1, r2, h⟩
  unfold isntBD at h
  split at h
  · simp only [Rep] at r1 r2
    subst r1 r2
    exact ⟨_, _, rfl, rfl, h.flat s rfl⟩
  · exact h.elim
/-! ### enumerate(xs) of a list -/
def enumF : Nat → List D → List D
  | _, [] => []
  | n, d :: r => .tuple [.int n, d] :: enumF (n + 1) r
theorem enumF_len : ∀ (n : Nat) (ds : List D), (enumF n ds).length = ds.length
  | _, [] => rfl
  | n, d :: r => by simp only [enumF, List.length_cons, enumF_len (n + 1) r]
theorem enumF_at : ∀ {n i : Nat} {ds : List D} {x : D}, (enumF n ds)[i]? = some x → ∃ d, ds[i]? = some d ∧ x = .tuple [.int ((n + i : Nat) : Int), d]
  | n, i, [], x, h => by simp [enumF] at h
  | n, 0, d :: r, x, h => by
    simp only [enumF, List.getElem?_cons_zero, Option.some.injEq] at h
    exact ⟨d, by simp, by rw [← h]; rfl⟩
  | n, i + 1, d :: r, x, h => by
    simp only [enumF, List.getElem?_cons_succ] at h
    obtain ⟨e, h1, h2⟩ := enumF_at h
    exact ⟨e, by simpa using h1, by rw [h2]; congr 3; omega⟩
def enumD : List D → Option (List D)
  | [.list ds] => some (enumF 0 ds)
  | _ => none
theorem wk_enum {K : PySem.W.Frag} {w : World} {W : Hp} {ds : List D} {a : Addr} {vs : List V} (h : W a = some (.lst vs)) (r : RepL K w W ds vs) : Wk K w W (enumF 0 ds) (Ite K a) where
  go i H W2 s1 s2 hi := by
    rw [enumF_len] at hi
    obtain ⟨v, hv, _⟩ := r.at (i := i) (List.getElem?_eq_getElem hi)
    exact ⟨vs, v, .inl (.of (s2 _ _ (s1 _ _ h))), hv⟩
  stop i H W2 s1 s2 hi := by
    rw [enumF_len] at hi
    exact ⟨vs, .inl (.of (s2 _ _ (s1 _ _ h))), by rw [r.len]; exact hi⟩
  yld i H W2 v H' x s1 s2 hx y := by
    obtain ⟨d, hd, rfl⟩ := enumF_at hx
    obtain ⟨v', hv, rv⟩ := r.at hd
    obtain ⟨T, x', rfl, hT, rfl, hall⟩ := y
    have e := hall vs (.inl (.of (s2 _ _ (s1 _ _ h))))
    rw [hv] at e
    have e : v' = x' := Option.some.inj e
    subst e
    have E := Ex.one (o := .tup [.int (i : Nat), v']) s2 hT
    refine ⟨_, E, ?_⟩
    simp only [Rep]
    refine ⟨T, _, rfl, .of upd_same, RepL.cons (by simp only [Rep, Nat.zero_add]) (RepL.cons (Rep.mono (s1.trans E.ext) d v' rv) RepL.nil)⟩
theorem ei_enum {e : Expr} {g : AF} {p pos tpos : Pos} {elts : List Expr} {kk : Nat} (hg : Gl X "enumerate") (hm : X.mg "enumerate" = none) (ha : EA X Wx [e] g) (hs : starEach [e] X.env = [(false, eval e X.env)] := by rfl) :
    EI X Wx (.Tuple elts kk tpos) (.Call (.Name "enumerate" p) [e] [] pos) (iArgs enumD g) := by
  refine PI.wk (pi_enum hg hm ha hs) ?_
  rintro σ H R ⟨ρ, W, env, A, S, h⟩
  refine tG_then S h fun ds W1 H1 env1 A1 vs S1 F1 r1 h1 => ?_
  simp only [enumD] at h1
  split at h1
  · simp only [RepL, Rep] at r1
    obtain ⟨v, _, rfl, ⟨a, us, rfl, q, l⟩, rfl⟩ := r1
    exact ⟨a, us, rfl, .inl (.of (S1.sub _ _ q)), wk_of S1 h1 rfl (wk_enum q l)⟩
  · exact h1.elim
/-! ### [*xs, ..] -/
def seqO : D → Out (List D)
  | .list ds => .ok ds
  | .tuple ds => .ok ds
  | _ => .bad
def aStar (f : XF) (g : AF) : AF := fun env => (f env).bind fun r => (seqO r.1).bind fun xs => (g r.2).bind fun q => .ok (xs ++ q.1, q.2)
theorem ea_star {e : Expr} {es : List Expr} {f : XF} {g : AF} {p : Pos} (he : EX X Wx e f) (hr : EA X Wx es g) (hs : starEach (.Starred e p :: es) X.env = (true, eval e X.env) :: starEach es X.env := by rfl) : EA X Wx (.Starred e p :: es) (aStar f g) := by
  refine PA.wk (StX.pa_star he hr hs) ?_
  rintro σ H Q ⟨ρ, W, env, A, S, h⟩
  refine tG_then S h fun d W1 H1 env1 A1 v S1 F1 r1 h1 => ?_
  have go : ∀ (ds : List D) (vs : List V), RepL X.K X.w W1 ds vs → onG X.K X.w X.mg Wx (RepL X.K X.w) ρ σ W1 H1 A1 ((g env1).bind fun q => .ok (ds ++ q.1, q.2)) Q → tL X Wx g σ H1 fun ys H2 => Q (vs ++ ys) H2 := fun ds vs rl hq =>
    tG_then S1 hq fun es W2 H2 env2 A2 us S2 F2 r2 h2 => h2 W2 H2 A2 _ S2 (Fr.refl _ _ _) ((RepL.mono F2.ext ds vs rl).append r2)
  cases d with
  | list ds =>
    simp only [Rep] at r1
    obtain ⟨a, vs, rfl, q, l⟩ := r1
    exact ⟨a, vs, rfl, .inr (.inl (.of (S1.sub _ _ q))), go ds vs l h1⟩
  | tuple ds =>
    simp only [Rep] at r1
    obtain ⟨a, vs, rfl, q, l⟩ := r1
    exact ⟨a, vs, rfl, .inl (Same.sqt S1.sub q), go ds vs l h1⟩
  | _ => exact h1.elim
end
end DP
set_option Elab.async false
set_option linter.all false
set_option maxRecDepth 100000
/-! DP, part 31: a < b < c < d; constants of the module that are tuples of texts; one of several defs, called. -/
namespace DP
open PySem PySem.Spec PyProof.Rows L2

/-! ### chains of any length -/
def chainR (o : D → D → Option D) (g : XF) (next : D → XF) (x : D) : XF := fun env => (g env).bind fun q => (liftO (o x q.1) q.2).bind fun t => (asB t).bind fun t => if t.1 = true then next q.1 t.2 else .ok (.bool false, t.2)
def chainE (o : D → D → Option D) (g : XF) (x : D) : XF := fun env => (g env).bind fun q => liftO (o x q.1) q.2
def xChainN (f : XF) (next : D → XF) : XF := fun env => (f env).bind fun r => next r.1 r.2
/-- the rest of a chain, its left value known -/
def CH (X : Cx) (Wx : WX) (pos : Pos) (ops : List CmpOp) (rs : List (Sem Value)) (F : D → XF) : Prop := ∀ (pins : List (Addr × Obj)) (s : Shared) (σ : L2.St) (H : Hp) (v : V) (u : Value) (Q : VK) (x : D) (ρ : Nat → Addr) (W : Hp) (env : Ev) (A : List (List Addr)),
  Inv X pins σ H s → RelV v u → SR X.K X.w ρ W H env σ A → Rep X.K X.w W x v → onX X Wx ρ σ W H A (F x env) Q → wpAny (model X.prog X.w) X.A (compareChain pos u ops rs) (EP X pins σ Q) X.xe s
section
variable {X : Cx} {Wx : WX} {a b c : Expr} {f g : XF} {pos : Pos} {op op' : CmpOp} {ops : List CmpOp} {o : D → D → Option D} {r' : Sem Value} {rs : List (Sem Value)} {F : D → XF}
theorem ch_last (ho : OpR X (compareOp op) (tV2 X.K X.w o)) (hb : EX X Wx b g) : CH X Wx pos [op] [eval b X.env] (chainE o g) := by
  intro pins s σ H v u Q x ρ W env A I r S rx h
  refine chain_last (thn (hb.run pins s σ H (fun w H2 => tV2 X.K X.w o v w H2 Q) I ?_) fun u2 s2 ⟨w, H2, I2, r2, q2⟩ => ho pins s2 σ H2 v w u u2 Q I2 r r2 q2)
  refine tG_then S h fun d W1 H1 env1 A1 w S1 F1 r1 h1 => ?_
  exact ⟨W1, x, d, S1.sub, Rep.mono F1.ext x v rx, r1, onV_of S1 h1⟩
theorem ch_link (ho : OpR X (compareOp op) (tV2 X.K X.w o)) (hb : EX X Wx b g) (k : CH X Wx pos (op' :: ops) (r' :: rs) F) : CH X Wx pos (op :: op' :: ops) (eval b X.env :: r' :: rs) (chainR o g F) := by
  intro pins s σ H v u Q x ρ W env A I r S rx h
  unfold chainR at h
  refine chain_link (thn (hb.run pins s σ H (fun w H2 => ∃ d W2 env2 A2, SR X.K X.w ρ W2 H2 env2 σ A2 ∧ Same W W2 ∧ Rep X.K X.w W2 d w ∧ onX X Wx ρ σ W2 H2 A2 ((liftO (o x d) env2).bind fun t => (asB t).bind fun t => if t.1 = true then F d t.2 else .ok (.bool false, t.2)) Q) I ?_) ?_)
  · exact tG_then S h fun d W1 H1 env1 A1 w S1 F1 r1 h1 => ⟨d, W1, env1, A1, S1, F1.ext, r1, h1⟩
  · rintro u2 s2 ⟨w, H2, I2, r2, d, W2, env2, A2, S2, sm, rw2, h2⟩
    cases eo : o x d with
    | none => rw [eo] at h2; exact h2.elim
    | some z =>
      rw [eo] at h2
      simp only [liftO_some, Out.bind_ok] at h2
      unfold asB at h2
      cases z with
      | bool q =>
        simp only [Out.bind_ok] at h2
        refine thn (ho pins s2 σ H2 v w u u2 (fun y H3 => ∃ W3, Ex W2 H2 W3 H3 ∧ y = .bl q) I2 r r2 ⟨W2, x, d, S2.sub, Rep.mono sm x v rx, rw2, by rw [eo]; exact fun W3 H3 y e3 r3 => ⟨W3, e3, by simpa only [Rep] using r3⟩⟩) ?_
        rintro u3 s3 ⟨y, H3, I3, r3, W3, e3, rfl⟩
        cases r3
        refine wpAny_truthy_bool ?_
        have S3 := S2.ex e3
        cases q with
        | false =>
          simp only [Bool.false_eq_true, if_false] at h2 ⊢
          exact ⟨.bl false, H3, I3, rfl, h2 W3 H3 A2 _ S3 (e3.fr _) (by simp only [Rep])⟩
        | true =>
          simp only [if_true] at h2 ⊢
          exact k pins s3 σ H3 w u2 Q d ρ W3 env2 A2 I3 r2 S3 (Rep.mono e3.ext d w rw2) (onG_fr h2 (e3.fr (ownd A2)))
      | _ => exact h2.elim
theorem ex_chainN {op2 : CmpOp} {b2 : Expr} {es : List Expr} (ha : EX X Wx a f) (k : CH X Wx pos (op :: op2 :: ops) (eval b X.env :: eval b2 X.env :: evalEach es X.env) F) (hm : lastMarks (op :: op2 :: ops) (b :: b2 :: es) = false := by with_unfolding_all rfl) :
    EX X Wx (.Compare a (op :: op2 :: ops) (b :: b2 :: es) pos) (xChainN f F) := by
  refine ⟨fun pins s σ H Q I h => ?_⟩
  obtain ⟨ρ, W, env, A, S, h⟩ := h
  unfold xChainN at h
  refine Compare_chain (thn (ha.run pins s σ H (fun v H1 => ∃ d W1 env1 A1, SR X.K X.w ρ W1 H1 env1 σ A1 ∧ Rep X.K X.w W1 d v ∧ onX X Wx ρ σ W1 H1 A1 (F d env1) Q) I ?_) ?_) hm
  · exact tG_then S h fun d W1 H1 env1 A1 v S1 F1 r1 h1 => ⟨d, W1, env1, A1, S1, r1, h1⟩
  · rintro u s1 ⟨v, H1, I1, r1, d, W1, env1, A1, S1, rd, h1⟩
    exact k pins s1 σ H1 v u Q d ρ W1 env1 A1 I1 r1 S1 rd h1
/-- a constant of the module: a tuple of texts -/
theorem ex_globT {x : Str} {t : Addr} {ss : List Str} {ob : Obj} {its : Array Value} {n : Nat} (hg : Gl X x) (hm : X.mg x = some (.ref t)) (hk : X.K.lookup t = some ob) (h1 : ob.cls = .type "tuple") (h2 : ob.data = .seq its n) (h3 : its.size ≤ sizeLine)
    (h4 : Vals (ss.map V.str) its.toList) (hd : (x == ("__debug__" : Str)) = false := by decide) : EX X Wx (.Name x pos) (xConst (.tuple (ss.map .str))) := by
  refine ex_const (pe_glob (v := .ref t) hg hm rfl hd) fun W => ?_
  simp only [Rep]
  refine ⟨t, ss.map V.str, rfl, .inr ⟨ob, its, n, hk, h1, h2, h3, h4⟩, ?_⟩
  clear h4
  induction ss with
  | nil => exact RepL.nil
  | cons y ss ih => exact RepL.cons (by simp only [Rep]) ih
end

/-! ### [f, g, ..][i](..) -/
def xCallFs (Fs : List (Nat × FD)) (ix : XF) (g : AF) : XF := fun env => (ix env).bind fun r => match r.1 with
  | .int i => (match atI Fs i with
    | some (n, F) => xCall n F g r.2
    | none => .bad)
  | _ => .bad
def FsOk (X : Cx) (j : Nat) (names : List Expr) (Fs : List (Nat × FD)) : Prop := ∃ as : List Addr, PA X names (fun _ H Q => Q (as.map V.ref) H) ∧ as.length = Fs.length ∧
  ∀ (i : Nat) a n F, as[i]? = some a → Fs[i]? = some (n, F) → ∃ fd k ps, k ≤ j ∧ FnG X.prog X.w X.K X.mg X.base k a fd ps (spF X.K X.w X.mg n F) ∧ PySem.W.keepIn X.K (.ref a) = true ∧ Binds X.K fd ps []
theorem atI_pair {α β : Type} {xs : List α} {ys : List β} (h : xs.length = ys.length) {i : Int} {y : β} (e : atI ys i = some y) : ∃ (j : Nat) (x : α), xs[j]? = some x ∧ ys[j]? = some y ∧ atI xs i = some x := by
  unfold atI at e ⊢
  rw [h]
  cases q : ixN ys.length i with
  | none => rw [q] at e; cases e
  | some j =>
    rw [q] at e
    have e : ys[j]? = some y := e
    have lt : j < xs.length := by rw [h]; exact (List.getElem?_eq_some_iff.mp e).1
    exact ⟨j, xs[j], List.getElem?_eq_getElem lt, e, List.getElem?_eq_getElem lt⟩
section
variable {X : Cx} {Wx : WX} {j k : Nat} {x : Str} {ps : List Str} {F : FD} {names : List Expr} {Fs : List (Nat × FD)} {p p1 p2 pos : Pos}
theorem fs_nil : FsOk X j [] [] := ⟨[], ⟨fun pos pins s σ H Q I h => pa_nil.run pos pins s σ H Q I h⟩, rfl, fun i a n F h => by simp at h⟩
theorem fs_cons (d : Def0 X.prog X.w X.K X.mg X.base k x ps F) (hk : k ≤ j) (hg : Gl X x) (r : FsOk X j names Fs) (hd : (x == ("__debug__" : Str)) = false := by decide)
    (hs : starEach (.Name x p :: names) X.env = (false, eval (.Name x p) X.env) :: starEach names X.env := by rfl) : FsOk X j (.Name x p :: names) ((ps.length, F) :: Fs) := by
  obtain ⟨f, fd, G, h1, h2, h3⟩ := d.ex
  obtain ⟨as, ha, hl, hf⟩ := r
  refine ⟨f :: as, PA.wk (pa_cons (pe_glob (v := .ref f) hg h1 rfl hd) ha hs) fun σ H Q q => q, by rw [List.length_cons, List.length_cons, hl], fun i a n F' e1 e2 => ?_⟩
  cases i with
  | zero =>
    simp only [List.getElem?_cons_zero, Option.some.injEq, Prod.mk.injEq] at e1 e2
    obtain ⟨e2, e3⟩ := e2
    subst e1 e2 e3
    exact ⟨fd, k, ps, hk, G, h2, h3⟩
  | succ i => exact hf i a n F' (by simpa using e1) (by simpa using e2)
theorem ex_callFs {ie e : Expr} {es : List Expr} {fi : XF} {g : AF} (h : FsOk X j names Fs) (hl : Fs.length ≤ 100) (hr : Room j X.A) (hq : X.A.guards = some []) (tk : Takes X Wx) (hi : EX X Wx ie fi) (ha : EA X Wx (e :: es) g) (hp : PlainIx ie)
    (hc : eval (.Call (.Subscript (.List names p1) ie p2) (e :: es) [] pos) X.env = (do callWith pos (← eval (.Subscript (.List names p1) ie p2) X.env) [] (backTo pos (starEach (e :: es) X.env)) (backToKw pos (keywordEach [] X.env))) := by rfl)
    (he : starEach (e :: es) X.env = (false, eval e X.env) :: starEach es X.env := by rfl) (hpl : (backTo pos (starEach es X.env)).any (·.1) = false := by rfl) :
    EX X Wx (.Call (.Subscript (.List names p1) ie p2) (e :: es) [] pos) (xCallFs Fs fi g) := by
  obtain ⟨as, hpa, hlen, hf⟩ := h
  refine ⟨fun pins s σ H Q I h => ?_⟩
  obtain ⟨ρ, W, env, A, S, h⟩ := h
  unfold xCallFs at h
  rw [hc]
  refine wpAny_bind ?_
  -- which one
  refine thn ((pe_ix (ix_list (X := X)) (pe_lst (pos := p1) hpa) hi hp).run pins s σ H (fun v H2 => ∃ (jj : Nat) (a : Addr) (n : Nat) (F : FD) (W2 : Hp) (env2 : Ev) (A2 : List (List Addr)), v = .ref a ∧ as[jj]? = some a ∧ Fs[jj]? = some (n, F) ∧ SR X.K X.w ρ W2 H2 env2 σ A2 ∧ onX X Wx ρ σ W2 H2 A2 (xCall n F g env2) Q) I ?_) ?_
  · refine ⟨by rw [List.length_map, hlen, sizeLine_eq]; omega, fun p n => ?_⟩
    have E := Ex.junk (o := .lst (as.map V.ref)) S.sub n
    refine tG_then (S.ex E) (onG_fr h (E.fr _)) fun d W1 H1 env1 A1 v S1 F1 r1 h1 => ?_
    cases d with
    | int i =>
      simp only [Rep] at r1
      subst r1
      simp only at h1
      cases ea : atI Fs i with
      | none => rw [ea] at h1; exact h1.elim
      | some nf =>
        obtain ⟨n0, F0⟩ := nf
        rw [ea] at h1
        obtain ⟨jj, a, e1, e2, e3⟩ := atI_pair hlen ea
        have hp1 : H1 p = some (.lst (as.map V.ref)) := F1.keep p _ upd_same fun z => by
          obtain ⟨_, o, ho⟩ := (S.ex E).own z
          obtain ⟨i', l', hi', hp'⟩ := z
          obtain ⟨_, o', ho'⟩ := S.own ⟨i', l', hi', hp'⟩
          rw [n] at ho'; cases ho'
        exact ⟨p, as.map V.ref, i, .ref a, rfl, rfl, .of hp1, by rw [atI_map, e3]; rfl, jj, a, n0, F0, W1, env1, A1, rfl, e1, e2, S1, h1⟩
    | _ => exact h1.elim
  · rintro u s2 ⟨v, H2, I2, r2, jj, a, n, F, W2, env2, A2, rfl, e1, e2, S2, h2⟩
    obtain rfl : u = Value.ref a := r2
    obtain ⟨fd, k, ps, hk, G, hkp, hb⟩ := hf jj a n F e1 e2
    refine PySem.W.callWith_K (h₀ := X.base) I2.ok.mod.kin hkp (thn (ha.run pos pins s2 σ H2 (fun vs H3 => spF X.K X.w X.mg n F vs H3 Q (fun cls d H => Wx cls d σ H)) I2 ?_) fun us s3 ⟨vs, H3, I3, r, q⟩ => ⟨I3.kIn, ?_⟩) he hpl
    · refine tG_then S2 h2 fun ds W3 H3 env3 A3 vs S3 F3 r3 h3 => ?_
      by_cases hn : ds.length = n
      · simp only [if_pos hn] at h3
        refine ⟨W3, ds, S3.sub, r3, hn, ?_⟩
        cases eF : F ds with
        | bad => rw [eF] at h3; exact h3.elim
        | ok d => rw [eF] at h3; exact fun W' H' v ex r => h3 W' H' A3 v (S3.ex ex) (ex.fr _) r
        | exc c d e' => rw [eF] at h3; exact fun C W' H' dx v g ex hx r => h3 C W' H' A3 dx v g (S3.ex ex) (ex.fr _) hx r
      · simp only [if_neg hn] at h3
        exact h3.elim
    · have hl' : us.length = ps.length := r.length.symm.trans (G.len _ _ _ _ q)
      have hb' := hb s3 us I3.kIn (by rw [List.append_nil]; exact hl')
      rw [List.append_nil] at hb'
      refine wpAny_call (codeAny_mono (G.go X.A X.stack s3 H3 ⟨us, []⟩ us vs Q _ (hr.mono hk) hq I3.env0 hb' r q) fun z s4 hz => ?_)
      cases z with
      | error y => exact passAt tk σ pins H3 s3 y s4 I3 hz
      | ok fl =>
        cases fl with
        | ret u => exact I3.after hz
        | next => exact False.elim hz
        | brk => exact False.elim hz
        | cont => exact False.elim hz
end
section
variable {X : Cx} {Wx : WX} {a : Expr} {f : XF} {pos : Pos}
theorem et_isN {j p2} (h : EX X Wx a f) : ET X Wx (.Compare a [.Is] [.Constant .none j p2] pos) (tst (x1 isN f)) := by
  refine PT.wk (pt_cmp (pc_isN h)) fun σ H Q h' => ?_
  obtain ⟨ρ, W, env, A, S, h'⟩ := tst_read h'
  refine tG_then S h' fun d W1 H1 env1 A1 v S1 F1 r1 h1 => ?_
  rw [rep_non r1]
  exact (onV_of S1 h1).flat S1.sub rfl
theorem et_notN {j p2} (h : EX X Wx a f) : ET X Wx (.Compare a [.IsNot] [.Constant .none j p2] pos) (tst (x1 notN f)) := by
  refine PT.wk (pt_cmp (pc_notN h)) fun σ H Q h' => ?_
  obtain ⟨ρ, W, env, A, S, h'⟩ := tst_read h'
  refine tG_then S h' fun d W1 H1 env1 A1 v S1 F1 r1 h1 => ?_
  rw [rep_non r1]
  exact (onV_of S1 h1).flat S1.sub rfl
end
end DP
set_option Elab.async false
set_option linter.all false
set_option maxRecDepth 100000
/-! DP, part 32: list comprehensions of any number of clauses: the machine. -/
namespace DP
open PySem PySem.Spec PyProof.Rows L2

theorem cT_more {elt t0 i0 t1 i1 : Expr} {ifs0 ifs1 : List Expr} {gens : List Comprehension} {scope : Scope} {pos : Pos} {k : Nat} (it acc : Value) (env : Env) (hk : gens[k]? = some ⟨t0, i0, ifs0, 0⟩) (hk1 : gens[k + 1]? = some ⟨t1, i1, ifs1, 0⟩) :
    compTurn (.ListComp elt gens scope pos) k it acc env = (do
      standAt i0.pos
      match ← pyNext it with
      | none => pure (.done .next)
      | some v =>
        letOwnedTupleGo t0 it v
        assign t0 env v
        let mut ok := true
        for c in ifs0 do if ok then ok ← isTrue c env (eval c env)
        if ok then
          let x ← eval i1 env
          standAt i1.pos
          let x ← foldedSetIterable i1 env x
          let _ ← runOwn (.compStart (.ListComp elt gens scope pos) (k + 1) (← holding [x] (pyIter x)) acc env) env
        again (.compLoop (.ListComp elt gens scope pos) k it acc env)) := by
  unfold compTurn
  simp only [hk, hk1]
  rfl
theorem cT_last {elt t0 i0 : Expr} {ifs0 : List Expr} {gens : List Comprehension} {scope : Scope} {pos : Pos} {k : Nat} (it acc : Value) (env : Env) (hk : gens[k]? = some ⟨t0, i0, ifs0, 0⟩) (hk1 : gens[k + 1]? = none) :
    compTurn (.ListComp elt gens scope pos) k it acc env = (do
      standAt i0.pos
      match ← pyNext it with
      | none => pure (.done .next)
      | some v =>
        letOwnedTupleGo t0 it v
        assign t0 env v
        let mut ok := true
        for c in ifs0 do if ok then ok ← isTrue c env (eval c env)
        if ok then (do let _ ← call (.builtin "list.append") [acc, ← eval elt env])
        again (.compLoop (.ListComp elt gens scope pos) k it acc env)) := by
  unfold compTurn
  simp only [hk, hk1]
  rfl
section
variable {prog : Program} {w : World} {A : Around} {R : Result → Shared → Prop} {s : Shared} {elt : Expr} {gens : List Comprehension} {scope : Scope} {pos : Pos} {it acc : Value} {env : Env}
/-- what runs behind the tests of clause k - 1: clause k, or the element -/
def Run (prog : Program) (w : World) (A : Around) (elt : Expr) (gens : List Comprehension) (scope : Scope) (pos : Pos) (acc : Value) (env : Env) (E : Value → Shared → Prop) (k : Nat) (Post : Shared → Prop) (s : Shared) : Prop :=
  match gens[k]? with
  | some g => wpAny (model prog w) A (eval g.iter env) (fun x s₄ => wpAny (model prog w) A (pyIter x) (fun it1 s₅ => codeAny (model prog w) A (.compStart (.ListComp elt gens scope pos) k it1 acc env) (fun r s' => match r with
      | .ok _ => Post s'
      | .error _ => False) s₅) E s₄) E s
  | none => wpAny (model prog w) A (eval elt env) (fun x s₄ => wpAny (model prog w) A (call (.builtin "list.append") [acc, x]) (fun _ s₅ => Post s₅) E s₄) E s
theorem cLoop {t0 i0 : Expr} {ifs0 : List Expr} {k : Nat} (hk : gens[k]? = some ⟨t0, i0, ifs0, 0⟩) (hk1 : ∀ g, gens[k + 1]? = some g → g.is_async = 0 ∧ ∀ x, foldedSetIterable g.iter env x = pure x) (I : Nat → Shared → Prop)
    (turn : ∀ n s, I n s → wpAny (model prog w) A (pyNext it) (fun r z₁ => match r with
      | none => R (.ok .next) z₁
      | some v => wpAny (model prog w) A (letOwnedTupleGo t0 it v) (fun _ z₂ => wpAny (model prog w) A (assign t0 env v) (fun _ z₃ =>
          wpAny (model prog w) A (forIn ifs0 true fun c r => if r = true then do let ok ← isTrue c env (eval c env); pure (ForInStep.yield ok) else pure (ForInStep.yield r)) (fun ok z₄ =>
            if ok = true then Run prog w A elt gens scope pos acc env (notedBy (model prog w) A env fun e s' => R (.error e) s') (k + 1) (fun s' => ∃ m, m < n ∧ I m s') z₄
            else ∃ m, m < n ∧ I m z₄) (notedBy (model prog w) A env fun e s' => R (.error e) s') z₃) (notedBy (model prog w) A env fun e s' => R (.error e) s') z₂) (notedBy (model prog w) A env fun e s' => R (.error e) s') z₁) (notedBy (model prog w) A env fun e s' => R (.error e) s') s)
    (n : Nat) (h : I n s) : codeAny (model prog w) A (.compLoop (.ListComp elt gens scope pos) k it acc env) R s := by
  refine codeAny_loop rfl I (fun n s hI => ?_) n h
  refine (wpAny_noted ?_ : wpAny _ A ((compTurn (.ListComp elt gens scope pos) k it acc env).onRaise (fun x => do noteFrame x env; theTreesLotGoes x)) _ _ s)
  cases e1 : gens[k + 1]? with
  | some g =>
    obtain ⟨t1, i1, ifs1, as⟩ := g
    obtain ⟨z1, hs⟩ := hk1 _ e1
    simp only at z1 hs
    subst z1
    rw [cT_more it acc env hk e1]
    refine wpAny_bind (wpAny_standAt (wpAny_bind (wpAny_mono (turn n s hI) (fun r z₁ h₁ => ?_) fun _ _ q => q)))
    cases r with
    | none => exact wpAny_pure h₁
    | some v =>
      refine wpAny_bind (wpAny_mono h₁ (fun _ z₂ h₂ => wpAny_bind (wpAny_mono h₂ (fun _ z₃ h₃ => wpAny_bind (wpAny_mono h₃ (fun ok z₄ h₄ => ?_) fun _ _ q => q)) fun _ _ q => q)) fun _ _ q => q)
      cases ok with
      | false => exact wpAny_pure ⟨rfl, h₄⟩
      | true =>
        simp only [if_true, Run, e1] at h₄
        refine wpAny_bind (wpAny_mono h₄ (fun x z₅ h₅ => wpAny_bind (wpAny_standAt (wpAny_bind (wpAny_of_eq (hs x) (wpAny_bind (wpAny_holding (wpAny_mono h₅ (fun it1 z₆ h₆ => wpAny_bind (wpAny_runOwn ?_)) fun _ _ q => q))))))) fun _ _ q => q)
        rw [Around.mark_none]
        refine codeAny_mono h₆ fun r s' hr => ?_
        cases r with
        | error e => exact hr.elim
        | ok f =>
          first
            | exact wpAny_pure ⟨rfl, hr⟩
            | exact wpAny_bind (wpAny_pure (wpAny_pure ⟨rfl, hr⟩))
  | none =>
    rw [cT_last it acc env hk e1]
    refine wpAny_bind (wpAny_standAt (wpAny_bind (wpAny_mono (turn n s hI) (fun r z₁ h₁ => ?_) fun _ _ q => q)))
    cases r with
    | none => exact wpAny_pure h₁
    | some v =>
      refine wpAny_bind (wpAny_mono h₁ (fun _ z₂ h₂ => wpAny_bind (wpAny_mono h₂ (fun _ z₃ h₃ => wpAny_bind (wpAny_mono h₃ (fun ok z₄ h₄ => ?_) fun _ _ q => q)) fun _ _ q => q)) fun _ _ q => q)
      cases ok with
      | false => exact wpAny_pure ⟨rfl, h₄⟩
      | true =>
        simp only [if_true, Run, e1] at h₄
        exact wpAny_bind (wpAny_bind (wpAny_mono h₄ (fun x z₅ h₅ => wpAny_bind (wpAny_mono h₅ (fun _ z₆ h₆ => wpAny_pure (wpAny_pure ⟨rfl, h₆⟩)) fun _ _ q => q)) fun _ _ q => q))
theorem cStart {k : Nat} {t1 i1 : Expr} {ifs1 : List Expr} (hk : gens[k]? = some ⟨t1, i1, ifs1, 0⟩) (h0 : codeAny (model prog w) A (.compLoop (.ListComp elt gens scope pos) k it acc env) R s)
    (h : wpAny (model prog w) A (pyIter it) (fun it' s' => codeAny (model prog w) A (.compLoop (.ListComp elt gens scope pos) k it' acc env) R s') (notedBy (model prog w) A env fun x s' => R (.error x) s') s) :
    codeAny (model prog w) A (.compStart (.ListComp elt gens scope pos) k it acc env) R s := by
  refine codeAny_of_tree ?_
  refine (wpAny_notedAt ?_ : wpAny _ _ ((compStart (.ListComp elt gens scope pos) k it acc env).onRaise (fun x => do noteFrame x env; standAt theWindowsPlace)) _ _ s)
  unfold compStart
  have e1 : (clausesOf (.ListComp elt gens scope pos))[k]? = some ⟨t1, i1, ifs1, 0⟩ := hk
  rw [e1]
  show wpAny _ _ (if (0 != 0) = true then _ else ask >>= _) _ _ s
  rw [if_neg (by decide)]
  refine wpAny_bind (wpAny_askSetting (wpAny_ite ?_))
  split
  · first
      | exact wpAny_bind (wpAny_pure (wpAny_pure (And.intro rfl h0)))
      | exact wpAny_pure (And.intro rfl h0)
  · first
      | exact wpAny_bind (wpAny_rule (wpAny_bind (wpAny_standAt (wpAny_bind (wpAny_mono h (fun it' s' h' => wpAny_pure (And.intro rfl h')) fun _ _ x => x)))))
      | (refine wpAny_bind (wpAny_rule ?_); exact (wpAny_bind (wpAny_standAt (wpAny_bind (wpAny_mono h (fun it' s' h' => wpAny_pure (And.intro rfl h')) fun _ _ x => x))) : wpAny _ _ (standAt i1.pos >>= _) _ _ s))
end
end DP
set_option Elab.async false
set_option linter.all false
set_option maxRecDepth 100000
/-! DP, part 33: list comprehensions of any number of clauses: the readings. -/
namespace DP
open PySem PySem.Spec PyProof.Rows L2

/-- behind the tests of a clause: the clauses that are left, then the element; Nx is reached behind them -/
def tNest (L : Addr) : List (TI × TG × TT × List Nat) → TE → L2.St → Hp → (Hp → Prop) → Prop
  | [], te, σ, H, Nx => te σ H fun y H7 => ∃ acc, H7 L = some (.lst acc) ∧ acc.length < sizeLine ∧ Nx (upd H7 L (.lst (acc ++ [y])))
  | (wi, g, tt, vs) :: cs, te, σ, H, Nx => wi σ H fun J H4 => ∃ W1 : Nat → Nat → Hp → Prop, (∃ m, W1 0 m H4) ∧ ∀ j k H, W1 j k H → (J.stop j H ∧ Nx H) ∨
      (J.go j H ∧ ∃ Nx1 : Hp → Prop, (∀ H', Nx1 H' → ∃ k', k' < k ∧ W1 (j + 1) k' H') ∧ ∀ x H', J.yld j H x H' → g x (wipe σ vs) H' fun σ3 H5 => wipe σ3 vs = wipe σ vs ∧ tt σ3 H5 fun b H6 => if b = true then tNest L cs te σ3 H6 Nx1 else Nx1 H6)
def allVs : List (TI × TG × TT × List Nat) → List Nat
  | [] => []
  | c :: _ => c.2.2.2
inductive NestOk (Y : Cx) : List Comprehension → List (TI × TG × TT × List Nat) → Prop
  | nil : NestOk Y [] []
  | cons {tg iter : Expr} {ifs : List Expr} {wi : TI} {g : TG} {tt : TT} {vs : List Nat} {gs : List Comprehension} {cs : List (TI × TG × TT × List Nat)} (hi : PI Y tg iter wi) (hg : PG Y tg g) (ht : PTs Y ifs tt) (hs : ∀ env x, foldedSetIterable iter env x = pure x) (hv : ∀ j ∈ allVs cs, j ∈ vs) (r : NestOk Y gs cs) :
      NestOk Y (⟨tg, iter, ifs, 0⟩ :: gs) ((wi, g, tt, vs) :: cs)
theorem NestOk.head {Y : Cx} {gs : List Comprehension} {cs : List (TI × TG × TT × List Nat)} (h : NestOk Y gs cs) (env : Env) : ∀ g, gs.head? = some g → g.is_async = 0 ∧ ∀ x, foldedSetIterable g.iter env x = pure x := by
  cases h with
  | nil => intro g e; cases e
  | cons hi hg ht hs hv r => intro g e; cases e; exact ⟨rfl, hs env⟩
theorem thnX {α : Type} {t : Sem α} {Q Q' : α → Shared → Prop} {M : Model} {A : Around} {E E' : Value → Shared → Prop} {s : Shared} (h : wpAny M A t Q E' s) (hx : E' = fun _ _ => False) (hQ : ∀ a s, Q a s → Q' a s) : wpAny M A t Q' E s := by
  subst hx; exact thnF h hQ
theorem drop_head {α : Type} {l r : List α} {k : Nat} (h : l.drop k = r) : l[k]? = r.head? := by
  rw [← h, List.head?_drop]
theorem drop_next {α : Type} {l r : List α} {k : Nat} {a : α} (h : l.drop k = a :: r) : l.drop (k + 1) = r := by
  have := congrArg List.tail h
  rwa [List.tail_drop] at this
/-- slots that stand -/
abbrev Std (σ σ' : L2.St) : Prop := σ'.length = σ.length ∧ ∀ (j : Nat) v, σ[j]? = some (some v) → σ'[j]? = some (some v)
theorem nest_run {Y : Cx} {elt : Expr} {te : TE} {gens gs : List Comprehension} {scope : Scope} {pos : Pos} {L : Addr} {cs : List (TI × TG × TT × List Nat)} (hc : Y.calm = true) (hxe : Y.xe = fun _ _ => False) (pe : PE Y elt te) (h : NestOk Y gs cs) :
    ∀ {k : Nat} (_ : gens.drop k = gs) {pins : List (Addr × Obj)} {s : Shared} {σ : L2.St} {H : Hp} {Nx : Hp → Prop} {E : Value → Shared → Prop} {Post : Shared → Prop}, Inv Y pins σ H s → tNest L cs te σ H Nx →
      (∀ {σ' : L2.St} {s' : Shared} {H' : Hp}, Inv Y pins σ' H' s' → σ'.length = σ.length → (∀ (j : Nat) v, (wipe σ (allVs cs))[j]? = some (some v) → σ'[j]? = some (some v)) → Nx H' → Post s') → Run Y.prog Y.w Y.A elt gens scope pos (.ref L) Y.env E k Post s := by
  induction h with
  | nil =>
    intro k hd pins s σ H Nx E Post I q fin
    have e1 : gens[k]? = none := drop_head hd
    unfold Run
    rw [e1]
    exact thnX (pe.run pins s σ H _ I q) hxe fun z s1 ⟨yv, H1, I1, r1, acc, hL, hz, nx⟩ => L2.app_ok (X := Y) I1 hL hz r1 fun s2 I2 => fin I2 rfl (fun j v e => (wipe_some e).1) nx
  | @cons tg iter ifs wi g tt vs gs cs hi hg ht hs hv r ih =>
    intro k hd pins s σ H Nx E Post I q fin
    have e1 : gens[k]? = some ⟨tg, iter, ifs, 0⟩ := drop_head hd
    have hd1 := drop_next hd
    unfold Run
    rw [e1]
    refine thnX (hi.run pins s σ H _ I q) hxe fun xv s1 hx => thnX hx hxe fun itv s2 ⟨it, fp, tn, J, H2, e2, I2, T, st, f, W1, ⟨m1, w1⟩, turn⟩ => ?_
    subst e2
    have stat : ∀ {H' : Hp}, (∀ b ∈ fp, H' b = none) → ∀ b ∈ fp, FpOk Y pins H' b := fun hn b hb => ⟨hn b hb, (f b hb).2⟩
    have loop : codeAny (model Y.prog Y.w) Y.A (.compLoop (.ListComp elt gens scope pos) k (.ref it) (.ref L) Y.env) (fun r s' => match r with | .ok _ => Post s' | .error _ => False) s2 := by
      refine cLoop e1 (fun g eg => r.head Y.env g (by rw [← drop_head hd1]; exact eg)) (fun n s' => ∃ j H', Inv Y pins (wipe σ vs) H' s' ∧ tn j s'.heap ∧ (∀ b ∈ fp, H' b = none) ∧ W1 j n H') ?_ m1 ⟨0, H2, I2.weak (wipe_length _ _) (fun j v e => (wipe_some e).1), st, fun b hb => (f b hb).1, w1⟩
      rintro n s3 ⟨j, H3, I3, st3, n3, w3⟩
      rcases turn j n H3 w3 with ⟨stop, nx⟩ | ⟨go, Nx1, hNx1, step⟩
      · refine thnF (T.done Y rfl rfl rfl hc j _ s3 (wipe σ vs) H3 (fun _ _ => False) I3 (stat n3) st3 stop) fun r s4 ⟨hr, I4⟩ => ?_
        subst hr
        exact fin I4 (wipe_length σ vs) (fun j v e => e) nx
      · refine thnF (T.item Y rfl rfl rfl hc j _ s3 (wipe σ vs) H3 (fun _ _ => False) I3 (stat n3) st3 go) fun r s4 ⟨u, hr, h4⟩ => ?_
        subst hr
        refine thnF h4 fun _ s5 ⟨x, H5, I5, r5, y5, st5, n5⟩ => ?_
        have I5' := I5.pinned (stat n5) (T.obj _ _ st5)
        refine thnX (hg.run _ s5 (wipe σ vs) H5 x u _ I5' r5 (step x H5 y5)) hxe fun _ s6 ⟨σ6, H6, I6, hw6, q6⟩ => ?_
        refine thnX (ht.run _ s6 σ6 H6 _ I6 q6) hxe fun b s7 ⟨H7, I7, q7⟩ => ?_
        have back : ∀ {σ8 : L2.St} {s' : Shared} {H' : Hp}, Inv Y (pins ++ pinsAt fp s5.heap) σ8 H' s' → σ8.length = σ6.length → (∀ (j : Nat) v, (wipe σ6 vs)[j]? = some (some v) → σ8[j]? = some (some v)) → Nx1 H' →
            ∃ m, m < n ∧ ∃ j H', Inv Y pins (wipe σ vs) H' s' ∧ tn j s'.heap ∧ (∀ b ∈ fp, H' b = none) ∧ W1 j m H' := fun {σ8 s' H'} I' hl hk nx => by
          obtain ⟨m', hm, w'⟩ := hNx1 H' nx
          have pin' : ∀ b ∈ fp, ∀ o, s5.heap.get? b = some o → s'.heap.get? b = some o ∧ H' b = none := fun b hb o e =>
            let z := I'.pin (b, o) (List.mem_append_right _ (List.mem_append_right _ (mem_pinsAt hb e)))
            ⟨z.1, z.2.1⟩
          refine ⟨m', hm, j + 1, H', I'.unpinned.weak (by rw [← hw6, wipe_length, hl]) (fun j v e => hk j v (by rw [hw6]; exact e)), T.keep _ _ _ st5 fun b hb o e => (pin' b hb o e).1, fun b hb => ?_, w'⟩
          obtain ⟨o, e, _⟩ := T.obj _ _ st5 b hb
          exact (pin' b hb o e).2
        cases b with
        | false =>
          simp only [Bool.false_eq_true, if_false] at q7 ⊢
          exact back I7 rfl (fun j v e => (wipe_some e).1) q7
        | true =>
          simp only [if_true] at q7 ⊢
          refine ih hd1 I7 q7 fun {σ8 s' H'} I8 hl hk nx => back I8 hl (fun j v e => hk j v ?_) nx
          obtain ⟨q1, q2⟩ := wipe_some e
          rw [DP.wipe_out _ fun z => q2 (hv j z)]
          exact q1
    exact cStart e1 loop (T.self Y.A 0 _ _ _ st loop)
end DP
set_option Elab.async false
set_option linter.all false
set_option maxRecDepth 100000
/-! DP, part 34: list comprehensions of any number of clauses, as values. -/
namespace DP
open PySem PySem.Spec PyProof.Rows L2

def tLcN (wi : TI) (g : TG) (tt : TT) (cs : List (TI × TG × TT × List Nat)) (te : TE) (vs : List Nat) : TE := fun σ H Q => wi σ H fun J H1 => ∀ L, H1 L = none → ∃ W : Nat → Nat → Hp → Prop, (∃ m, W 0 m (upd H1 L (.lst []))) ∧ ∀ i m H, W i m H →
  (J.stop i H ∧ Q (.ref L) H) ∨ (J.go i H ∧ ∃ Nx : Hp → Prop, (∀ H', Nx H' → ∃ m', m' < m ∧ W (i + 1) m' H') ∧ ∀ x H', J.yld i H x H' → g x (wipe σ vs) H' fun σ2 H2 => wipe σ2 vs = wipe σ vs ∧ tt σ2 H2 fun b H3 => if b = true then tNest L cs te σ2 H3 Nx else Nx H3)
section
variable {X : Cx}
/-- an empty list, just made -/
abbrev lst0 : Obj := { cls := .type "list", data := .seq ([] : List Value).toArray }
abbrev dct0 : Obj := { cls := .type "dict", data := .dict #[] }
theorem pe_lcN {elt tg iter : Expr} {ifs : List Expr} {gs : List Comprehension} {scope : Scope} {own : List (Str × Nat)} {pos : Pos} {wi : TI} {g : TG} {tt : TT} {te : TE} {cs : List (TI × TG × TT × List Nat)} (hc : X.calm = true) (hN : X.N.Nodup) (hi : PI X tg iter wi) (ok : BlkOk X.N X.env.scope scope own)
    (hv : ∀ j ∈ allVs cs, j ∈ own.map (·.2)) (hg : ∀ s H C cl fp, PG (X.blk s H scope (compEnvC scope cl C X.env) fp) tg g) (ht : ∀ s H C cl fp, PTs (X.blk s H scope (compEnvC scope cl C X.env) fp) ifs tt)
    (hcs : ∀ s H C cl fp, NestOk (X.blk s H scope (compEnvC scope cl C X.env) fp) gs cs) (he : ∀ s H C cl fp, PE (X.blk s H scope (compEnvC scope cl C X.env) fp) elt te) (hs : ∀ x, foldedSetIterable iter X.env x = pure x := by intro _; rfl) :
    PE X (.ListComp elt (⟨tg, iter, ifs, 0⟩ :: gs) scope pos) (tLcN wi g tt cs te (own.map (·.2))) := by
  refine ⟨fun pins s σ H Q I h => ?_⟩
  rw [eval_ListComp]
  have free : ∀ y ∈ scope.names, y.2 = .free → ∃ c, X.env.cells.lookup y.1 = some c := fun y hy e => (ok.free y hy e).elim (fun k => I.ok.has _ (.inl k)) fun k => I.ok.has _ (.inr k)
  refine wpAny_comprehension_free (use := none) rfl hs (closure_ok free) ok.kind (fun y hy e => by rw [ok.uniq y hy, e]) (thn (hi.run pins s σ H _ I h) fun xv z1 hx => thn hx fun itv z2 h2 => ?_)
  obtain ⟨it, fp, tn, J, H2, e, I2, T, st2, f2, q⟩ := h2
  subst e
  refine wpAny_newObj_type (newEnv_comp ?_) (by show 0 ≤ sizeLine; decide)
  generalize hL : z2.heap.objs.size = L
  have nL : H2 L = none := I2.hok.fresh (Nat.le_of_eq hL)
  obtain ⟨W, ⟨m0, w0⟩, turn⟩ := q L nL
  generalize hz3 : ({ z2 with heap := z2.heap.push lst0 } : Shared) = z3
  have hp3 : z3.heap = z2.heap.push lst0 := by rw [← hz3]
  have I3 : Inv X pins σ (upd H2 L (.lst [])) z3 := by
    rw [← hz3]
    exact I2.laid (t' := z2.toks) (fun b o e => Heap.get?_push_of_some _ e) (Nat.le_of_eq hL) ⟨Nat.zero_le _, [], 0, .nil, by rw [← hL]; exact Heap.get?_push_size _ rfl⟩
  have lt : ∀ b ∈ fp, b < z2.heap.objs.size := fun b hb => let ⟨_, e, _⟩ := T.obj _ _ st2 b hb; Heap.lt_size e
  have f3 : ∀ b ∈ fp, FpOk X pins (upd H2 L (.lst [])) b ∧ b < z3.heap.objs.size := fun b hb =>
    ⟨⟨by rw [upd_ne (by rw [← hL]; exact Nat.ne_of_lt (lt b hb))]; exact (f2 b hb).1, (f2 b hb).2⟩, by rw [hp3, Heap.size_push]; exact Nat.lt_succ_of_lt (lt b hb)⟩
  have st3 : tn 0 z3.heap := T.keep _ _ _ st2 fun b _ o e => by rw [hp3]; exact Heap.get?_push_of_some _ e
  have I4 := block_start I3 ok hN f3
  generalize hH3 : upd H2 L (.lst []) = H3 at I3 I4 w0 f3
  have pg := hg z3 H3 z3.heap.objs.size (cellsFrom (z3.heap.objs.size + 1) scope.names (cloFrom X.env.cells scope.names [])) fp
  have pt := ht z3 H3 z3.heap.objs.size (cellsFrom (z3.heap.objs.size + 1) scope.names (cloFrom X.env.cells scope.names [])) fp
  have pe := he z3 H3 z3.heap.objs.size (cellsFrom (z3.heap.objs.size + 1) scope.names (cloFrom X.env.cells scope.names [])) fp
  have pn := hcs z3 H3 z3.heap.objs.size (cellsFrom (z3.heap.objs.size + 1) scope.names (cloFrom X.env.cells scope.names [])) fp
  have fp0 : ∀ b ∈ fp, H3 b = none := fun b hb => (f3 b hb).1.1
  show codeAny _ _ (.compStart (.ListComp elt (⟨tg, iter, ifs, 0⟩ :: gs) scope pos) 0 (.ref it) (.ref L) (compEnvC scope (cellsFrom (z3.heap.objs.size + 1) scope.names (cloFrom X.env.cells scope.names [])) z3.heap.objs.size X.env)) (compPost (model X.prog X.w) X.A X.xe none _ (.ref L) z3.heap.objs.size) { z3 with heap := pushCells (z3.heap.push dct0) scope.names }
  generalize hce : compEnvC scope (cellsFrom (z3.heap.objs.size + 1) scope.names (cloFrom X.env.cells scope.names [])) z3.heap.objs.size X.env = ce at I4 pg pt pe pn ⊢
  have cL : ce.locals = z3.heap.objs.size := by subst hce; rfl
  generalize hz4 : ({ z3 with heap := pushCells (z3.heap.push dct0) scope.names } : Shared) = z4 at I4 ⊢
  have st4 : tn 0 z4.heap := T.keep _ _ _ st3 fun b _ o e => by rw [← hz4]; exact pushCells_keeps _ _ _ _ (Heap.get?_push_of_some _ e)
  have stat : ∀ {σ' : L2.St} {H' : Hp} {s' : Shared}, Inv (X.blk z3 H3 scope ce fp) [] σ' H' s' → (∀ b ∈ fp, H' b = none) → ∀ b ∈ fp, FpOk (X.blk z3 H3 scope ce fp) [] H' b := fun {σ' H' s'} I' hn b hb =>
    ⟨hn b hb, (I'.ok.exf b hb).1, I'.ok.exfs b hb, .inl hb, fun x c e => (I'.ok.exf b hb).2 x c e, fun p hp => absurd (hp : p ∈ ([] : List (Addr × Obj)) ++ []) (by simp)⟩
  have loop : codeAny (model X.prog X.w) X.A (.compLoop (.ListComp elt (⟨tg, iter, ifs, 0⟩ :: gs) scope pos) 0 (.ref it) (.ref L) ce) (compPost (model X.prog X.w) X.A X.xe none (EP X pins σ Q) (.ref L) z3.heap.objs.size) z4 := by
    refine cLoop (gens := ⟨tg, iter, ifs, 0⟩ :: gs) rfl (fun g eg => pn.head ce g (by rw [List.head?_eq_getElem?]; exact eg)) (fun n s' => ∃ i H', Inv (X.blk z3 H3 scope ce fp) [] (wipe σ (own.map (·.2))) H' s' ∧ tn i s'.heap ∧ (∀ b ∈ fp, H' b = none) ∧ W i n H') ?_ m0 ⟨0, H3, I4, st4, fp0, w0⟩
    rintro n z5 ⟨i, H5, I5, st5, n5, w5⟩
    rcases turn i n H5 w5 with ⟨stop, qq⟩ | ⟨go, Nx, hNx, step⟩
    · refine thnF (T.done (X.blk z3 H3 scope ce fp) rfl rfl rfl hc i [] z5 _ H5 (fun _ _ => False) I5 (stat I5 n5) st5 stop) fun r z6 ⟨hr, I6⟩ => ?_
      subst hr
      have I7 : Inv X pins σ H5 z6 := I3.call' (ch := fp) I6.os I6.base I6.hok I6.bare fun b hb => let y := (f3 b hb).1.2; ⟨y.2.2.1, y.1, y.2.2.2.1, y.2.2.2.2⟩
      have nC : H5 z3.heap.objs.size = none := by rw [← cL]; exact I6.free
      obtain ⟨m, hn, _⟩ := I6.loc
      obtain ⟨f0, f1, f2, f3', f4, f5⟩ := I3.fpOk (Nat.le_refl _) nC
      exact ⟨m, (by rw [← cL]; exact hn), fun h'' sb => ⟨.ref L, H5, I7.turned (t' := z6.toks) (fun b o hb e => (sb.2 b hb).trans e) f0 f1 f3' f4 f5, rfl, qq⟩⟩
    · refine thnF (T.item (X.blk z3 H3 scope ce fp) rfl rfl rfl hc i [] z5 _ H5 (fun _ _ => False) I5 (stat I5 n5) st5 go) fun r z6 ⟨u, hr, h6⟩ => ?_
      subst hr
      refine thnF h6 fun _ z7 ⟨x, H7, I7, r7, y7, st7, n7⟩ => ?_
      have I7' := I7.pinned (stat I7 n7) (T.obj _ _ st7)
      refine thnF (pg.run _ z7 _ H7 x u _ I7' r7 (step x H7 y7)) fun _ z8 ⟨σ8, H8, I8, hw8, q8⟩ => ?_
      refine thnF (pt.run _ z8 σ8 H8 _ I8 q8) fun b z9 ⟨H9, I9, q9⟩ => ?_
      have fin : ∀ {σ9 : L2.St} {s' : Shared} {H' : Hp}, Inv (X.blk z3 H3 scope ce fp) ([] ++ pinsAt fp z7.heap) σ9 H' s' → σ9.length = σ8.length → (∀ (j : Nat) v, (wipe σ (own.map (·.2)))[j]? = some (some v) → σ9[j]? = some (some v)) → Nx H' →
          ∃ m, m < n ∧ ∃ i H', Inv (X.blk z3 H3 scope ce fp) [] (wipe σ (own.map (·.2))) H' s' ∧ tn i s'.heap ∧ (∀ b ∈ fp, H' b = none) ∧ W i m H' := fun {σ9 s' H'} I' hl hk nx => by
        obtain ⟨m', hm, w'⟩ := hNx H' nx
        have pin' : ∀ b ∈ fp, ∀ o, z7.heap.get? b = some o → s'.heap.get? b = some o ∧ H' b = none := fun b hb o e =>
          let z := I'.pin (b, o) (List.mem_append_right _ (List.mem_append_right _ (mem_pinsAt hb e)))
          ⟨z.1, z.2.1⟩
        refine ⟨m', hm, i + 1, H', (I'.unpinned (pins := [])).weak (by rw [hl, ← hw8, wipe_length]) hk, T.keep _ _ _ st7 fun b hb o e => (pin' b hb o e).1, fun b hb => ?_, w'⟩
        obtain ⟨o, e, _⟩ := T.obj _ _ st7 b hb
        exact (pin' b hb o e).2
      cases b with
      | false =>
        simp only [Bool.false_eq_true, if_false] at q9 ⊢
        exact fin I9 rfl (fun j v e => by rw [← hw8] at e; exact (wipe_some e).1) q9
      | true =>
        simp only [if_true] at q9 ⊢
        refine nest_run (Y := X.blk z3 H3 scope ce fp) hc rfl pe pn (gens := ⟨tg, iter, ifs, 0⟩ :: gs) (k := 1) rfl I9 q9 fun {σ9 s' H'} I' hl hk nx => fin I' hl (fun j v e => hk j v ?_) nx
        rw [← hw8] at e
        obtain ⟨e1, e2⟩ := wipe_some e
        rw [DP.wipe_out _ fun z => e2 (hv j z)]
        exact e1
  exact codeAny_compStart_list loop (T.self X.A 0 _ _ _ st4 loop)
end
end DP
set_option Elab.async false
set_option linter.all false
set_option maxRecDepth 100000
/-! DP, part 35: list comprehensions of any number of clauses, reckoned. -/
namespace DP
open PySem PySem.Spec PyProof.Rows L2

/-- a clause behind the first: what it walks, its target, its tests; us: the target's slots; vs: what is forgotten at each of its turns -/
structure ClD where
  it : IF
  g : GF
  ts : TF
  us : List Nat
  vs : List Nat
def loopL (inner : Ev → Out (List D × Ev)) (g : GF) (ts : TF) (vs : List Nat) : List D → Ev → Out (List D × Ev)
  | [], env => .ok ([], env)
  | x :: xs, env => match g x env with
    | none => .bad
    | some e1 => (ts e1).bind fun t => if t.1 = true then (inner t.2).bind fun y => (loopL inner g ts vs xs (wipeE y.2 vs)).bind fun r => .ok (y.1 ++ r.1, r.2) else loopL inner g ts vs xs (wipeE t.2 vs)
def nestL (el : XF) : List ClD → Ev → Out (List D × Ev)
  | [], env => (el env).bind fun y => .ok ([y.1], y.2)
  | c :: cs, env => (c.it env).bind fun r => loopL (nestL el cs) c.g c.ts c.vs r.1 (wipeE r.2 c.vs)
def xCompN (it : IF) (g : GF) (ts : TF) (cs : List ClD) (el : XF) (vs : List Nat) : XF := fun env => (it env).bind fun r => match loopL (nestL el cs) g ts vs r.1 (wipeE r.2 vs) with
  | .ok (ds, e) => if ds.length ≤ sizeLine then .ok (.list ds, backE r.2 e vs) else .bad
  | _ => .bad
def tiOf (X : Cx) (cs : List ClD) : List (TI × TG × TT × List Nat) := cs.map fun c => (tI X Wx0 c.it, tGt X c.us c.g, tT X Wx0 c.ts, c.vs)
def σAft (σ : L2.St) : List ClD → L2.St
  | [] => σ
  | c :: _ => L2.wipe σ c.vs
section
variable (X : Cx) (L : Addr) (W1 H1 : Hp) (A1 : List (List Addr)) (ρ : Nat → Addr)
/-- within a comprehension that makes the list L: done is in it -/
structure CSt (env : Ev) (σ : L2.St) (done : List D) (acc : List V) (W H : Hp) (A : List (List Addr)) : Prop where
  sr : SR X.K X.w ρ W H env σ A
  fr : Fr W1 H1 (ownd A1) W H (ownd A)
  nw : W L = none
  no : ¬ ownd A L
  at_ : H L = some (.lst acc)
  rp : RepL X.K X.w W done acc
variable {X L W1 H1 A1 ρ}
variable {env env' : Ev} {σ σ' : L2.St} {done : List D} {acc : List V} {W H W' H' : Hp} {A A' : List (List Addr)}
theorem CSt.step (C : CSt X L W1 H1 A1 ρ env σ done acc W H A) (S' : SR X.K X.w ρ W' H' env' σ' A') (F : Fr W H (ownd A) W' H' (ownd A')) : CSt X L W1 H1 A1 ρ env' σ' done acc W' H' A' := by
  refine ⟨S', C.fr.trans F, ?_, fun z => ?_, F.keep L _ C.at_ C.no, RepL.mono F.ext _ _ C.rp⟩
  · cases z : W' L with
    | none => rfl
    | some u =>
      rcases F.new L (by rw [z]; exact fun z => nomatch z) C.nw with q | q
      · exact absurd q C.no
      · rw [C.at_] at q; cases q
  · rcases F.own L z with q | q
    · exact C.no q
    · rw [C.at_] at q; cases q
theorem CSt.wipe (C : CSt X L W1 H1 A1 ρ env σ done acc W H A) (vs : List Nat) : CSt X L W1 H1 A1 ρ (wipeE env vs) (L2.wipe σ vs) done acc W H (wipeA A vs) :=
  C.step (C.sr.wipe vs) (fr_sub fun p h => ownd_wipe h)
theorem CSt.snoc (C : CSt X L W1 H1 A1 ρ env σ done acc W H A) (nL : H1 L = none) {d : D} {v : V} (r : Rep X.K X.w W d v) : CSt X L W1 H1 A1 ρ env σ (done ++ [d]) (acc ++ [v]) W (upd H L (.lst (acc ++ [v]))) A := by
  refine ⟨C.sr.keep (Same.refl _) (fun b u q => ?_) fun b hb => ⟨upd_ne fun e => C.no (e ▸ hb), (C.sr.own hb).1⟩, ⟨C.fr.ext, fun b u hb hp => ?_, C.fr.new, C.fr.own⟩, C.nw, C.no, upd_same, C.rp.snoc r⟩
  · rw [upd_ne (fun e => by rw [e, C.nw] at q; cases q)]
    exact C.sr.sub b u q
  · rw [upd_ne (fun e => by rw [e, nL] at hb; cases hb)]
    exact C.fr.keep b u hb hp
/-- what the clauses that are left do -/
def NestRd (X : Cx) (L : Addr) (W1 H1 : Hp) (A1 : List (List Addr)) (ρ : Nat → Addr) (el : XF) (cs : List ClD) : Prop := ∀ (σ : L2.St) (H W : Hp) (env : Ev) (A : List (List Addr)) (done : List D) (acc : List V) (ys : List D) (env' : Ev) (Nx : Hp → Prop),
  CSt X L W1 H1 A1 ρ env σ done acc W H A → nestL el cs env = .ok (ys, env') → done.length + ys.length ≤ sizeLine →
    (∀ W' H' A' acc', CSt X L W1 H1 A1 ρ env' (σAft σ cs) (done ++ ys) acc' W' H' A' → Same W W' → Nx H') → tNest L (tiOf X cs) (tX X Wx0 el) σ H Nx
/-- one clause's loop -/
theorem loop_read {el : XF} {cs : List ClD} {g : GF} {ts : TF} {us vs : List Nat} (hus : ∀ j ∈ us, j ∈ vs) (hcs : ∀ c ∈ cs.head?, ∀ j ∈ c.vs, j ∈ vs) (NR : NestRd X L W1 H1 A1 ρ el cs) {xs : List D} {J : It} {ys : List D} {envE : Ev} {Fin : Hp → Prop}
    (wk : Wk X.K X.w W xs J) (C : CSt X L W1 H1 A1 ρ env (L2.wipe σ vs) done acc W H A) (h : loopL (nestL el cs) g ts vs xs env = .ok (ys, envE)) (hz : done.length + ys.length ≤ sizeLine)
    (fin : ∀ W' H' A' acc', CSt X L W1 H1 A1 ρ envE (L2.wipe σ vs) (done ++ ys) acc' W' H' A' → Same W W' → Fin H') :
    ∃ W2 : Nat → Nat → Hp → Prop, (∃ m, W2 0 m H) ∧ ∀ j k H, W2 j k H → (J.stop j H ∧ Fin H) ∨
      (J.go j H ∧ ∃ Nx1 : Hp → Prop, (∀ H', Nx1 H' → ∃ k', k' < k ∧ W2 (j + 1) k' H') ∧ ∀ x H', J.yld j H x H' → tGt X us g x (L2.wipe σ vs) H' fun σ3 H5 => L2.wipe σ3 vs = L2.wipe σ vs ∧ tT X Wx0 ts σ3 H5 fun b H6 => if b = true then tNest L (tiOf X cs) (tX X Wx0 el) σ3 H6 Nx1 else Nx1 H6) := by
  refine ⟨fun i m H => m = xs.length - i ∧ i ≤ xs.length ∧ ∃ W2 env2 A2 done2 rest acc2, CSt X L W1 H1 A1 ρ env2 (L2.wipe σ vs) done2 acc2 W2 H A2 ∧ Same W W2 ∧ done2 ++ rest = done ++ ys ∧ loopL (nestL el cs) g ts vs (xs.drop i) env2 = .ok (rest, envE),
    ⟨xs.length, by simp, Nat.zero_le _, W, env, A, done, ys, acc, C, Same.refl _, rfl, h⟩, ?_⟩
  rintro i m H2 ⟨rfl, hi, W2, env2, A2, done2, rest, acc2, C2, s2, eq2, c2⟩
  by_cases hlt : i < xs.length
  · obtain ⟨x, hx⟩ : ∃ x, xs[i]? = some x := ⟨_, List.getElem?_eq_getElem hlt⟩
    have hd : xs.drop i = x :: xs.drop (i + 1) := by
      have e1 := List.drop_eq_getElem_cons hlt
      rw [List.getElem?_eq_getElem hlt] at hx
      cases hx
      exact e1
    rw [hd] at c2
    unfold loopL at c2
    refine .inr ⟨wk.go i H2 W2 s2 C2.sr.sub hlt, fun H => i + 1 ≤ xs.length ∧ ∃ W2 env2 A2 done2 rest acc2, CSt X L W1 H1 A1 ρ env2 (L2.wipe σ vs) done2 acc2 W2 H A2 ∧ Same W W2 ∧ done2 ++ rest = done ++ ys ∧ loopL (nestL el cs) g ts vs (xs.drop (i + 1)) env2 = .ok (rest, envE),
      fun H' ⟨q1, q2⟩ => ⟨xs.length - (i + 1), by omega, rfl, q1, q2⟩, fun v H4 y => ?_⟩
    obtain ⟨W4, e4, r4⟩ := wk.yld i H2 W2 v H4 x s2 C2.sr.sub hx y
    have S4 := C2.sr.ex e4
    cases eg : g x env2 with
    | none => rw [eg] at c2; cases c2
    | some env5 =>
      rw [eg] at c2
      simp only at c2
      refine ⟨ρ, W4, env2, A2, x, env5, S4, r4, eg, fun σ5 A5 S5 p5 a5 => ?_⟩
      have ws : L2.wipe σ5 vs = L2.wipe σ vs := by rw [wipe_agr a5 hus, wipe_wipe]
      have C5 : CSt X L W1 H1 A1 ρ env5 σ5 done2 acc2 W4 H4 A5 := C2.step S5 ((e4.fr _).trans (fr_sub p5))
      refine ⟨by rw [ws], step0 S5 c2 fun b W6 H6 env6 A6 k S6 F6 r6 c6 => ?_⟩
      subst r6
      have C6 := C5.step S6 F6
      have s6 := (s2.trans e4.ext).trans F6.ext
      cases k with
      | false =>
        simp only [Bool.false_eq_true, if_false] at c6
        have C7 := C6.wipe vs
        rw [ws] at C7
        exact iteF ⟨hlt, W6, _, _, done2, rest, acc2, C7, s6, eq2, c6⟩
      | true =>
        simp only [if_true] at c6
        refine iteT ?_
        cases en : nestL el cs env6 with
        | bad => rw [en] at c6; cases c6
        | exc c d e => rw [en] at c6; cases c6
        | ok yr =>
          obtain ⟨y1, env7⟩ := yr
          rw [en, Out.bind_ok] at c6
          cases ed : loopL (nestL el cs) g ts vs (xs.drop (i + 1)) (wipeE env7 vs) with
          | bad => rw [ed] at c6; cases c6
          | exc c d' e => rw [ed] at c6; cases c6
          | ok rr =>
            obtain ⟨rest', envE'⟩ := rr
            rw [ed, Out.bind_ok] at c6
            obtain ⟨c8, c9⟩ : y1 ++ rest' = rest ∧ envE' = envE := by
              injection c6 with c6
              injection c6 with c6 c9
              exact ⟨c6, c9⟩
            subst c9
            have hlen : done2.length + y1.length ≤ sizeLine := by
              have e1 := congrArg List.length eq2
              rw [← c8] at e1
              simp only [List.length_append] at e1
              omega
            refine NR σ5 H6 W6 env6 A6 done2 acc2 y1 env7 _ C6 en hlen fun W7 H7 A7 acc7 C7 s7 => ?_
            have C8 := C7.wipe vs
            have ws' : L2.wipe (σAft σ5 cs) vs = L2.wipe σ vs := by
              cases cs with
              | nil => exact ws
              | cons c cs' =>
                have z : L2.wipe (L2.wipe σ5 c.vs) vs = L2.wipe σ5 vs := wipe_agr (us := c.vs) ⟨wipe_length _ _, fun j hj => DP.wipe_out _ hj⟩ (hcs c (by simp))
                exact z.trans ws
            rw [ws'] at C8
            exact ⟨hlt, W7, _, _, done2 ++ y1, rest', acc7, C8, s6.trans s7, by rw [List.append_assoc, c8]; exact eq2, ed⟩
  · have ei : i = xs.length := by omega
    subst ei
    refine .inl ⟨wk.stop _ H2 W2 s2 C2.sr.sub (Nat.le_refl _), ?_⟩
    rw [List.drop_length] at c2
    unfold loopL at c2
    obtain ⟨rfl, rfl⟩ : rest = [] ∧ env2 = envE := by
      injection c2 with c2
      injection c2 with c2 c5
      exact ⟨c2.symm, c5⟩
    rw [List.append_nil] at eq2
    subst eq2
    exact fin W2 H2 A2 acc2 C2 s2
/-- targets within what is forgotten; what is forgotten within what is forgotten outside -/
inductive ClsIn : List ClD → Prop
  | nil : ClsIn []
  | cons {c : ClD} {cs : List ClD} (h : ∀ j ∈ c.us, j ∈ c.vs) (k : ∀ c' ∈ cs.head?, ∀ j ∈ c'.vs, j ∈ c.vs) (r : ClsIn cs) : ClsIn (c :: cs)
theorem nest_read (nL : H1 L = none) {el : XF} {cs : List ClD} (h : ClsIn cs) : NestRd X L W1 H1 A1 ρ el cs := by
  induction h with
  | nil =>
    intro σ H W env A done acc ys env' Nx C e hz fin
    unfold nestL at e
    refine step0 C.sr e fun d W7 H7 env7 A7 v7 S7 F7 r7 c7 => ?_
    obtain ⟨e1, e2⟩ : [d] = ys ∧ env7 = env' := by
      injection c7 with c7
      injection c7 with c7 c9
      exact ⟨c7, c9⟩
    subst e1 e2
    have C7 := C.step S7 F7
    refine ⟨acc, C7.at_, ?_, fin W7 _ A7 _ (C7.snoc nL r7) F7.ext⟩
    rw [C.rp.len]
    simp only [List.length_cons, List.length_nil] at hz
    omega
  | @cons c cs hu hk _ ih =>
    intro σ H W env A done acc ys env' Nx C e hz fin
    unfold nestL at e
    show tI X Wx0 c.it σ H _
    refine step0 C.sr e fun xs W4 H4 env4 A4 J S4 F4 wk c4 => ?_
    exact loop_read (us := c.us) (vs := c.vs) hu hk ih wk ((C.step S4 F4).wipe c.vs) c4 hz fun W' H' A' acc' C' s' => fin W' H' A' acc' C' (F4.ext.trans s')
end
section
variable {X : Cx} {Wx : WX} {it : IF} {g : GF} {ts : TF} {el : XF} {cs : List ClD} {us vs : List Nat} {σ : L2.St} {H : Hp} {Q : VK}
theorem compN_read (hus : ∀ j ∈ us, j ∈ vs) (hcs : ∀ c ∈ cs.head?, ∀ j ∈ c.vs, j ∈ vs) (hin : ClsIn cs) (h : tN X Wx (xCompN it g ts cs el vs) σ H Q) : tLcN (tI X Wx it) (tGt X us g) (tT X Wx0 ts) (tiOf X cs) (tX X Wx0 el) vs σ H Q := by
  obtain ⟨ρ, W, env, A, S, h⟩ := h
  unfold xCompN at h
  refine tN_then S h fun xs W1 H1 env1 A1 J S1 F1 wk h1 => ?_
  intro L nL
  cases ec : loopL (nestL el cs) g ts vs xs (wipeE env1 vs) with
  | bad => rw [ec] at h1; exact h1.elim
  | exc c d e => rw [ec] at h1; exact h1.elim
  | ok r =>
    obtain ⟨ds, envE⟩ := r
    simp only [ec] at h1
    by_cases hz : ds.length ≤ sizeLine
    · rw [if_pos hz] at h1
      have nW : W1 L = none := S1.sub.free nL
      have oL : ¬ ownd A1 L := fun z => by
        obtain ⟨_, u, hu⟩ := S1.own z
        rw [nL] at hu; cases hu
      have E := Ex.junk (o := .lst ([] : List V)) S1.sub nL
      have C : CSt X L W1 H1 A1 ρ env1 σ [] [] W1 (upd H1 L (.lst [])) A1 := ⟨S1.ex E, E.fr _, nW, oL, upd_same, RepL.nil⟩
      refine loop_read hus hcs (nest_read nL hin) wk (C.wipe vs) ec (by simpa using hz) fun W2 H2 A2 acc2 C2 s2 => ?_
      exact h1 W2 H2 _ L (SR.back C2.sr S1 s2) (C2.fr.trans (fr_sub fun p h => ownd_wipe h)) C2.nw ⟨acc2, C2.at_, C2.rp⟩ (fun z => C2.no (ownd_wipe z)) (.inr nL)
    · rw [if_neg hz] at h1
      exact h1.elim
end
/-- the clauses behind the first, judged within a block -/
inductive ClsOk (Y : Cx) : List Comprehension → List ClD → Prop
  | nil : ClsOk Y [] []
  | cons {tg iter : Expr} {ifs : List Expr} {it : IF} {g : GF} {ts : TF} {us vs : List Nat} {gs : List Comprehension} {cs : List ClD} (hi : EI Y Wx0 tg iter it) (hg : EG Y tg us g) (ht : EQ Y Wx0 ifs ts) (r : ClsOk Y gs cs) (hs : ∀ env x, foldedSetIterable iter env x = pure x := by intro _ _; rfl) :
      ClsOk Y (⟨tg, iter, ifs, 0⟩ :: gs) (⟨it, g, ts, us, vs⟩ :: cs)
theorem allVs_tiOf {X : Cx} {cs : List ClD} {j : Nat} (h : j ∈ allVs (tiOf X cs)) : ∃ c ∈ cs.head?, j ∈ c.vs := by
  cases cs with
  | nil => cases h
  | cons c cs => exact ⟨c, by simp, h⟩
theorem ClsOk.nest {Y X : Cx} {gs : List Comprehension} {cs : List ClD} (h : ClsOk Y gs cs) (e1 : Y.K = X.K) (e2 : Y.w = X.w) (e3 : Y.mg = X.mg) (hin : ClsIn cs) : NestOk Y gs (tiOf Y cs) := by
  induction h with
  | nil => exact .nil
  | cons hi hg ht r hs ih =>
    cases hin with
    | cons hu hk hr => exact .cons hi hg ht hs (fun j hj => let ⟨c, hc, hj'⟩ := allVs_tiOf hj; hk c hc j hj') (ih hr)
theorem en_compN {X : Cx} {Wx : WX} {it : IF} {g : GF} {ts : TF} {el : XF} {cs : List ClD} {us : List Nat} {elt tg iter : Expr} {ifs : List Expr} {gs : List Comprehension} {scope : Scope} {own : List (Str × Nat)} {pos : Pos} (hc : X.calm = true) (hN : X.N.Nodup) (hi : EI X Wx tg iter it)
    (ok : BlkOk X.N X.env.scope scope own) (hus : us ⊆ own.map (·.2)) (hin : ClsIn cs) (hh : ∀ c ∈ cs.head?, ∀ j ∈ c.vs, j ∈ own.map (·.2)) (hg : ∀ s H C cl fp, EG (X.blk s H scope (compEnvC scope cl C X.env) fp) tg us g)
    (ht : ∀ s H C cl fp, EQ (X.blk s H scope (compEnvC scope cl C X.env) fp) Wx0 ifs ts) (hcs : ∀ s H C cl fp, ClsOk (X.blk s H scope (compEnvC scope cl C X.env) fp) gs cs) (he : ∀ s H C cl fp, EX (X.blk s H scope (compEnvC scope cl C X.env) fp) Wx0 elt el)
    (hs : ∀ x, foldedSetIterable iter X.env x = pure x := by intro _; rfl) : EN X Wx (.ListComp elt (⟨tg, iter, ifs, 0⟩ :: gs) scope pos) (xCompN it g ts cs el (own.map (·.2))) :=
  PE.wk (pe_lcN hc hN hi ok (fun j hj => let ⟨c, hc, hj'⟩ := allVs_tiOf hj; hh c hc j hj') hg ht (fun s H C cl fp => (hcs s H C cl fp).nest (X := X) rfl rfl rfl hin) he hs) fun σ H Q h => compN_read (fun j hj => hus hj) hh hin h
theorem in_nil {vs : List Nat} : ∀ c ∈ ([] : List ClD).head?, ∀ j ∈ c.vs, j ∈ vs := fun _ h => nomatch h
theorem in_cons {c : ClD} {cs : List ClD} {vs : List Nat} (h : ∀ j ∈ c.vs, j ∈ vs) : ∀ c' ∈ (c :: cs).head?, ∀ j ∈ c'.vs, j ∈ vs := by
  intro c' e
  have e : c = c' := Option.some.inj e
  subst e
  exact h
theorem all_nil {α : Type} {P : α → Prop} : ∀ y ∈ ([] : List α), P y := fun _ h => nomatch h
theorem all_cons {α : Type} {P : α → Prop} {a : α} {l : List α} (h : P a) (r : ∀ y ∈ l, P y) : ∀ y ∈ a :: l, P y := fun y hy => (List.mem_cons.mp hy).elim (fun e => e ▸ h) (r y)
theorem refsVE_base : HandSPX.refsVE [.type "ValueError", .type "Exception", .type "BaseException", .type "object"] = true := by decide +kernel
theorem refsVE_one {c : Addr} : HandSPX.refsVE [.ref c, .type "ValueError", .type "Exception", .type "BaseException", .type "object"] = true := refsVE_base
end DP
set_option Elab.async false
set_option linter.all false
set_option maxRecDepth 100000
/-! DP, part 36: plain laws of the newer words. -/
namespace DP
open PySem L2
section
variable {env e1 : Ev} {f g : XF} {o : D → D → Option D} {next : D → XF} {x d : D} {b : SF} {hs : List Hd} {c : Str}
@[simp] theorem xChainN_ap {k : D → XF} : xChainN f k env = (f env).bind fun r => k r.1 r.2 := rfl
@[simp] theorem chainR_ap : chainR o g next x env = (g env).bind fun q => (liftO (o x q.1) q.2).bind fun t => (asB t).bind fun t => if t.1 = true then next q.1 t.2 else .ok (.bool false, t.2) := rfl
@[simp] theorem chainE_ap : chainE o g x env = (g env).bind fun q => liftO (o x q.1) q.2 := rfl
@[simp] theorem sRaise_ap : sRaise c f env = (f env).bind fun r => .exc c r.1 r.2 := rfl
@[simp] theorem xSortSetI_ap : xSortSetI f env = (f env).bind fun r => liftO (sortSetID r.1) r.2 := rfl
@[simp] theorem aStar_ap {l : AF} : aStar f l env = (f env).bind fun r => (seqO r.1).bind fun xs => (l r.2).bind fun q => .ok (xs ++ q.1, q.2) := rfl
@[simp] theorem seqO_l {ds : List D} : seqO (.list ds) = .ok ds := rfl
@[simp] theorem seqO_t {ds : List D} : seqO (.tuple ds) = .ok ds := rfl
@[simp] theorem isBD_b {p q : Bool} : isBD (.bool p) (.bool q) = some (.bool (decide (p = q))) := rfl
theorem runB_nx {n : Nat} {B : SF} {ds : List D} {e : Ev} (h : B (ds.map .fz ++ List.replicate (n - ds.length) .no) = .ok (.nx, e)) : runB n B ds = .ok .none := by unfold runB; rw [h]
theorem runB_exc {n : Nat} {B : SF} {ds : List D} {e : Ev} (h : B (ds.map .fz ++ List.replicate (n - ds.length) .no) = .exc c d e) : runB n B ds = .exc c d e := by unfold runB; rw [h]
end
theorem cmp_map {α : Type} {F : α → D} {g : GF} {ts : TF} {el : XF} {vs : List Nat} {env : Ev} {b : α → Bool} {f : α → D} : ∀ L : List α, (∀ a ∈ L, ∃ e1, g (F a) env = some e1 ∧ ts e1 = .ok (b a, e1) ∧ (b a = true → el e1 = .ok (f a, e1)) ∧ wipeE e1 vs = env) →
    cmpL g ts el vs (L.map F) env = .ok ((L.filter b).map f, env)
  | [], _ => rfl
  | a :: L, h => by
    obtain ⟨e1, h1, h2, h3, h4⟩ := h a List.mem_cons_self
    have ih := cmp_map (F := F) (g := g) (ts := ts) (el := el) (vs := vs) (env := env) (b := b) (f := f) L fun x hx => h x (List.mem_cons_of_mem _ hx)
    rw [List.map_cons]
    unfold cmpL
    rw [h1]
    simp only [h2, Out.bind_ok]
    cases hb : b a with
    | false =>
      simp only [Bool.false_eq_true, if_false]
      rw [h4, ih, List.filter_cons_of_neg (by rw [hb]; decide)]
    | true =>
      simp only [if_true, h3 hb, Out.bind_ok]
      rw [h4, ih, List.filter_cons_of_pos hb]
      rfl
theorem filter_true {α : Type} (L : List α) : L.filter (fun _ => true) = L := by simp
theorem cmp_mapT {α : Type} {F : α → D} {g : GF} {el : XF} {vs : List Nat} {env : Ev} {f : α → D} (L : List α) (h : ∀ a ∈ L, ∃ e1, g (F a) env = some e1 ∧ el e1 = .ok (f a, e1) ∧ wipeE e1 vs = env) : cmpL g tTrue el vs (L.map F) env = .ok (L.map f, env) := by
  have q := cmp_map (F := F) (g := g) (ts := tTrue) (el := el) (vs := vs) (env := env) (b := fun _ => true) (f := f) L fun a ha => let ⟨e1, h1, h2, h3⟩ := h a ha; ⟨e1, h1, rfl, fun _ => h2, h3⟩
  rwa [filter_true] at q
theorem enumF_map {α : Type} (F : α → D) : ∀ (n : Nat) (L : List α), enumF n (L.map F) = (L.zipIdx n).map fun p => .tuple [.int (p.2 : Nat), F p.1]
  | _, [] => rfl
  | n, a :: L => by
    rw [List.map_cons, List.zipIdx_cons, List.map_cons, ← enumF_map F (n + 1) L]
    rfl
theorem zip_filter {α : Type} (b : α → Bool) : ∀ (n : Nat) (L : List α), ((L.zipIdx n).filter fun p => b p.1).map (·.1) = L.filter b
  | _, [] => rfl
  | n, a :: L => by
    rw [List.zipIdx_cons]
    cases h : b a with
    | true => rw [List.filter_cons_of_pos (by exact h), List.filter_cons_of_pos h, List.map_cons, zip_filter b (n + 1) L]
    | false => rw [List.filter_cons_of_neg (by rw [h]; decide), List.filter_cons_of_neg (by rw [h]; decide), zip_filter b (n + 1) L]
/-- a loop that looks for the first one and returns there, or goes through -/
theorem for_first {α : Type} {F : α → D} {g : GF} {body : SF} {b : α → Bool} {k : α → D} (I : Ev → Prop) : ∀ (L : List α) (env : Ev), (∀ a ∈ L, ∀ env, I env → ∃ e1, g (F a) env = some e1 ∧ (b a = true → ∃ e2, body e1 = .ok (.rt (k a), e2)) ∧ (b a = false → ∃ e2, body e1 = .ok (.nx, e2) ∧ I e2)) → I env →
    (∃ a e2, L.find? b = some a ∧ forL g body (L.map F) env = .ok (.rt (k a), e2)) ∨ ∃ e2, L.find? b = none ∧ forL g body (L.map F) env = .ok (.nx, e2) ∧ I e2
  | [], env, _, h => .inr ⟨env, rfl, rfl, h⟩
  | a :: L, env, h, hI => by
    obtain ⟨e1, h1, h2, h3⟩ := h a List.mem_cons_self env hI
    rw [List.map_cons]
    cases hb : b a with
    | true =>
      obtain ⟨e2, h4⟩ := h2 hb
      refine .inl ⟨a, e2, by rw [List.find?_cons_of_pos hb], ?_⟩
      unfold forL
      rw [h1]
      simp only [h4, Out.bind_ok]
    | false =>
      obtain ⟨e2, h4, h5⟩ := h3 hb
      have e : forL g body (F a :: L.map F) env = forL g body (L.map F) e2 := by
        conv => lhs; unfold forL
        rw [h1]
        simp only [h4, Out.bind_ok]
      rw [e, List.find?_cons_of_neg (by rw [hb]; decide)]
      exact for_first I L e2 (fun x hx => h x (List.mem_cons_of_mem _ hx)) h5
/-- a loop that reckons something: I by the items left -/
theorem for_fold {α β : Type} {F : α → D} {g : GF} {body : SF} {st : β → α → β} (I : Nat → β → Ev → Prop) : ∀ (L : List α) (b : β) (env : Ev), (∀ a ∈ L, ∀ n b env, I (n + 1) b env → ∃ e1 e2, g (F a) env = some e1 ∧ body e1 = .ok (.nx, e2) ∧ I n (st b a) e2) → I L.length b env →
    ∃ e2, forL g body (L.map F) env = .ok (.nx, e2) ∧ I 0 (L.foldl st b) e2
  | [], b, env, _, h => ⟨env, rfl, h⟩
  | a :: L, b, env, h, hI => by
    obtain ⟨e1, e2, h1, h2, h3⟩ := h a List.mem_cons_self L.length b env hI
    obtain ⟨e3, h4, h5⟩ := for_fold I L (st b a) e2 (fun x hx => h x (List.mem_cons_of_mem _ hx)) h3
    refine ⟨e3, ?_, h5⟩
    rw [List.map_cons]
    conv => lhs; unfold forL
    rw [h1]
    simp only [h2, Out.bind_ok]
    exact h4
theorem loop_map {α : Type} {F : α → D} {inner : Ev → Out (List D × Ev)} {g : GF} {vs : List Nat} {env : Ev} {f : α → List D} : ∀ L : List α, (∀ a ∈ L, ∃ e1 e2, g (F a) env = some e1 ∧ inner e1 = .ok (f a, e2) ∧ wipeE e2 vs = env) → loopL inner g tTrue vs (L.map F) env = .ok (L.flatMap f, env)
  | [], _ => rfl
  | a :: L, h => by
    obtain ⟨e1, e2, h1, h2, h3⟩ := h a List.mem_cons_self
    have ih := loop_map (F := F) (inner := inner) (g := g) (vs := vs) (env := env) (f := f) L fun x hx => h x (List.mem_cons_of_mem _ hx)
    rw [List.map_cons]
    unfold loopL
    rw [h1]
    simp only [tTrue_ap, Out.bind_ok, if_true, h2, h3, ih]
    rfl
theorem foldl_app {α β : Type} (f : α → List β) : ∀ (L : List α) (b : List β), L.foldl (fun b a => b ++ f a) b = b ++ L.flatMap f
  | [], b => by simp
  | a :: L, b => by rw [List.foldl_cons, foldl_app f L, List.flatMap_cons, List.append_assoc]
theorem setZ_len (L : List Int) : (setZ L).length ≤ L.length := by
  unfold setZ
  rw [List.length_mergeSort]
  exact dups_len _ L (Nat.le_refl _)
theorem sortSetI_ok {xs : List Int} (h : xs.length < 64) : sortSetID (.list (xs.map .int)) = some (.list ((setZ xs).map .int)) := by
  simp only [sortSetID, intsD_map, List.length_map, if_pos h]
end DP
set_option Elab.async false
set_option linter.all false
set_option maxRecDepth 100000
/-! DP, part 37: list(x) and sorted(x), x a dict too. -/
namespace DP
open PySem PySem.Spec PyProof.Rows L2

theorem items_keys {es : Array DictEntry} {acc : Array Value} (it : PySem.ItemsOf (fun i v => ∃ en : DictEntry, es[i]? = some en ∧ v = en.key) acc es.size) : acc.toList = es.toList.map (·.key) := by
  have hl : acc.toList.length = es.size := by rw [Array.length_toList]; exact it.1
  apply List.ext_getElem?
  intro j
  rw [List.getElem?_map]
  cases hj : acc.toList[j]? with
  | none =>
    have h1 := List.getElem?_eq_none_iff.mp hj
    rw [List.getElem?_eq_none (by rw [Array.length_toList]; omega)]
    rfl
  | some v =>
    obtain ⟨en, hen, hv⟩ := it.2 j v (by rw [← Array.getElem?_toList]; exact hj)
    rw [Array.getElem?_toList, hen, hv]
    rfl
theorem keys_vals {K : PySem.W.Frag} {w : World} {W : Hp} : ∀ {kvs : List (D × D)} {es : List DictEntry}, RepKV K w W kvs es → ∃ vs, Vals vs (es.map (·.key)) ∧ RepL K w W (kvs.map (·.1)) vs
  | [], es, h => by
    simp only [RepKV] at h
    subst h
    exact ⟨[], .nil, RepL.nil⟩
  | (k, d) :: r, es, h => by
    simp only [RepKV] at h
    obtain ⟨e, q, rfl, _, ⟨x, h1, h2⟩, _, h3⟩ := h
    obtain ⟨vs, a, b⟩ := keys_vals h3
    exact ⟨x :: vs, .cons h1 a, RepL.cons h2 b⟩
def listD2 : List D → Option D
  | [.list ds] => some (.list ds)
  | [.tuple ds] => some (.list ds)
  | [.dict kvs] => some (.list (kvs.map (·.1)))
  | _ => none
def sortedD2 : List D → Option D
  | [.list ds] => if srtOk ds = true then some (.list (sortL ds)) else none
  | [.dict kvs] => if srtOk (kvs.map (·.1)) = true then some (.list (sortL (kvs.map (·.1)))) else none
  | _ => none

section
variable {prog : Program} {w : World} {A : Around} {E : Value → Shared → Prop} {s : Shared} {d : Addr} {o : Obj} {es : Array DictEntry} {ep : Nat}
/-- the keys of a dict as sorted takes them up; the heap has grown -/
theorem collect_raw {R : List Value → Shared → Prop} (hh : A.handled = none) (lo : (d == sysModules) = false) (hx : o.ExactDict) (hd : o.data = .dict es ep) (ho : s.heap.get? d = some o) (hn : es.size ≤ sizeLine)
    (h : ∀ (g : Heap) (tk : Nat), (∀ b o, s.heap.get? b = some o → g.get? b = some o) → s.heap.objs.size < g.objs.size → R (es.toList.map (·.key)) { s with heap := g, toks := tk }) : wpAny (model prog w) A (collect (.ref d)) R E s := by
  have lt := Heap.lt_size ho
  unfold collect
  refine wpAny_bind (wpAny_runValue (codeAny_builtin PyProof.Rows.entry_proto_collect' ?_))
  rw [Around.under_plainId PySem.F.plain_proto_collect _]; show wpAny _ A.in1 (newList [] >>= fun l => again (.builtin "list.__iadd__" ⟨[l, .ref d], []⟩)) _ _ s
  refine wpAny_bind (wpAny_newObj_type (wpAny_pure ⟨plainId_quiet PySem.F.plain_list_iadd _, codeAny_builtin entry_list_iadd' ?_⟩))
  rw [Around.under_plainId PySem.F.plain_list_iadd _]; show wpAny _ A.in1 (Builtin.List.listExtendWith (.ref s.heap.objs.size) (.ref d) (.ref s.heap.objs.size)) _ _ _
  have hS : (s.heap.push { cls := .type "list", data := .seq ([] : List Value).toArray }).get? s.heap.objs.size = some { cls := .type "list", data := .seq #[] } := Heap.get?_push_size _ rfl
  have key := PySem.W.kdl_extend (prog := prog) (w := w) (A := A) (s := { s with heap := s.heap.push { cls := .type "list", data := .seq ([] : List Value).toArray } }) (R := fun (q : Result) (s' : Shared) => ∃ (g : Heap) (tk c : Nat) (l : Array Value), q = .ok (.ret (.ref s.heap.objs.size)) ∧ s' = { s with heap := g, toks := tk } ∧ (∀ b o, s.heap.get? b = some o → g.get? b = some o) ∧
      g.get? s.heap.objs.size = some { cls := .type "list", dict := none, data := .seq l c, slots := #[] } ∧ l.toList = es.toList.map (·.key)) (kdl_raw lo hx hd) hh (Heap.get?_push_of_some _ ho) s.heap.objs.size (Nat.ne_of_gt lt) (Nat.ne_of_gt lt) (.ref s.heap.objs.size) 0 hS
    (fun g tk l c hk e it => ⟨g, tk, c, l, rfl, rfl, fun b o q => hk b o (Nat.ne_of_lt (Heap.lt_size q)) (Heap.get?_push_of_some _ q), e, items_keys it⟩) hn
  refine wpAny_mono key (fun fin s' x => ?_) fun e s' x => by
    obtain ⟨_, _, _, _, z, _⟩ := x
    cases z
  match fin, x with
  | .done f, x =>
    obtain ⟨g, tk, c, l, z, rfl, hk, e, el⟩ := x
    cases z
    show wpAny _ A (load s.heap.objs.size >>= _) _ _ _
    exact wpAny_bind (wpAny_load e (wpAny_pure (el ▸ h g tk hk (Heap.lt_size e))))
  | .again c₁, x =>
    refine ⟨x.1, codeAny_mono x.2 fun q s₂ y => ?_⟩
    obtain ⟨g, tk, c, l, rfl, rfl, hk, e, el⟩ := y
    show wpAny _ A (load s.heap.objs.size >>= _) _ _ _
    exact wpAny_bind (wpAny_load e (wpAny_pure (el ▸ h g tk hk (Heap.lt_size e))))
/-- sorted(d) up to the sort of the keys -/
theorem sorted_raw {Q : Value → Shared → Prop} (hh : A.handled = none) (lo : (d == sysModules) = false) (hx : o.ExactDict) (hd : o.data = .dict es ep) (ho : s.heap.get? d = some o) (hn : es.size ≤ sizeLine)
    (h : ∀ (h' : Heap) (tk : Nat), (∀ b o, s.heap.get? b = some o → h'.get? b = some o) → s.heap.objs.size < h'.objs.size →
      wpAny (model prog w) A.in1 (call (.builtin "list.sort") [.ref h'.objs.size]) (fun _ s' => Q (.ref h'.objs.size) s') E { s with heap := h'.push { cls := .type "list", data := .seq (es.toList.map (·.key)).toArray }, toks := tk }) :
    wpAny (model prog w) A (call (.builtin "sorted") [.ref d]) Q E s := by
  refine PySem.Calls.call_function_entry kind_sorted plain_sorted entry_sorted (args_sorted1 _) ?_
  unfold Builtin.«sorted»
  refine wpAny_bind (m := checkCount "sorted" 1 1 _) (wpAny_pure ?_)
  refine wpAny_bind (collect_raw (A := A.in1) hh lo hx hd ho hn fun h' tk hk hlt => ?_)
  refine wpAny_bind (wpAny_newList ?_ (by rw [List.length_map, Array.length_toList]; exact hn))
  have hg := h h' tk hk hlt
  refine wpAny_bind (wpAny_holding (wpAny_mono hg (fun _ s' x => ?_) fun _ _ e => e))
  exact wpAny_pure ⟨_, rfl, x⟩
end
section
variable {X : Cx}
theorem cr_listD2 (hc : X.calm = true) : CallR X (.type "list") (tWn X.K X.w listD2) := by
  intro pins s σ H xs us Q I r h
  obtain ⟨W, ds, sm, rl, h⟩ := h
  unfold listD2 at h
  split at h
  · exact cr_list pins s σ H xs us Q I r ⟨W, _, sm, rl, h⟩
  · exact cr_list pins s σ H xs us Q I r ⟨W, _, sm, rl, h⟩
  · rename_i kvs
    obtain ⟨v, rfl, rv⟩ := rl.one
    simp only [Rep] at rv
    obtain ⟨a, es, ep, rfl, ha, kv, nd⟩ := rv
    obtain ⟨u, rfl, ru⟩ := vals1 r
    cases ru
    obtain ⟨⟨d1, d2, d3⟩, _⟩ := I.hok a _ (sm _ _ ha)
    refine PySem.W.kdl_call (kdl_raw d1 ⟨rfl, rfl, rfl⟩ rfl) (I.ok.hd hc) d3 d2 fun h' tk acc' c' kp e it => ?_
    have ek := items_keys it
    obtain ⟨vs, v1, v2⟩ := keys_vals kv
    have hz : vs.length ≤ sizeLine := by
      rw [v2.len, List.length_map, ← kv.len, Array.length_toList]
      exact d2
    refine ⟨.ref s.heap.objs.size, _, I.laid (t' := tk) (o := .lst vs) kp (Nat.le_refl _) ⟨hz, acc'.toList, c', by rw [ek]; exact v1, by rw [Array.toArray_toList]; exact e⟩, rfl, h.lst sm v2 (I.hok.fresh (Nat.le_refl _))⟩
  · exact h.elim
theorem cr_sortedD2 (hc : X.calm = true) (hu : X.A.units + 64 < cLine) : CallR X (.builtin "sorted") (tWn X.K X.w sortedD2) := by
  intro pins s σ H xs us Q I r h
  obtain ⟨W, ds, sm, rl, h⟩ := h
  unfold sortedD2 at h
  split at h
  · exact cr_sortedD hu pins s σ H xs us Q I r ⟨W, _, sm, rl, h⟩
  · rename_i kvs
    split at h
    · rename_i ok
      obtain ⟨v, rfl, rv⟩ := rl.one
      simp only [Rep] at rv
      obtain ⟨a, es, ep, rfl, ha, kv, nd⟩ := rv
      obtain ⟨u, rfl, ru⟩ := vals1 r
      cases ru
      obtain ⟨⟨d1, d2, d3⟩, _⟩ := I.hok a _ (sm _ _ ha)
      refine sorted_raw (I.ok.hd hc) d1 ⟨rfl, rfl, rfl⟩ rfl d3 d2 fun h' tk hk hlt => ?_
      obtain ⟨vs, v1, v2⟩ := keys_vals kv
      obtain ⟨e1, e2⟩ := each_reads I sm v2 v1
      have hz : (kvs.map (·.1)).length ≤ sizeLine := by
        rw [List.length_map, ← kv.len, Array.length_toList]
        exact d2
      have hob : (h'.push { cls := .type "list", data := .seq (es.toList.map (·.key)).toArray }).get? h'.objs.size = some (seqObj "list" (es.toList.map (·.key)).toArray 0) := Heap.get?_push_size _ rfl
      have kb : ∀ b o, s.heap.get? b = some o → (h'.push { cls := .type "list", data := .seq (es.toList.map (·.key)).toArray }).get? b = some o := fun b o e => Heap.get?_push_of_some _ (hk b o e)
      have ne0 : ∀ b o, s.heap.get? b = some o → b ≠ h'.objs.size := fun b o e => Nat.ne_of_lt (Heap.lt_size (hk b o e))
      generalize hh2 : h'.push { cls := .type "list", data := .seq (es.toList.map (·.key)).toArray } = h2 at hob kb ⊢
      have e3 : PySem.W.EachIs (fun (u : Value) (d : D) => ∃ as, Reads h2 u (id d) as ∧ h'.objs.size ∉ as) (es.toList.map (·.key)) (kvs.map (·.1)) := e2.mono fun u d ⟨as, rd⟩ => ⟨as, PyProof.Rows.Reads.keeps kb rd, fun hm => by
        exact absurd (Nat.lt_trans hlt (reads_there rd _ hm)) (Nat.lt_irrefl _)⟩
      refine PySem.W.list_sort_data (s := { s with heap := h2, toks := tk }) (bs := kvs.map (·.1)) (enc := id) (R := fun u d => ∃ v, RelV v u ∧ Rep X.K X.w W d v) hob e1 e3 (srtOk_alike ok) (srtOk_sortable ok) hz (fun b hb => ?_) fun out hl he => ?_
      · have := srtOk_depth ok b hb
        show X.A.units + 1 + 1 + b.depth < cLine
        omega
      · obtain ⟨ys, ry, ly⟩ := vals_of_each (P := fun _ _ => True) he
        obtain ⟨c, hcc⟩ := sortedHeap_at (vs := es.toList.map (·.key)) (out := out.toArray) hob
        have nf : H h'.objs.size = none := I.hok.fresh (Nat.le_of_lt hlt)
        have kS : ∀ b o, s.heap.get? b = some o → (sortedHeap h2 h'.objs.size (es.toList.map (·.key)) out.toArray).get? b = some o := fun b o e => (sortedHeap_old (ne0 _ _ e) (Heap.lt_size (kb _ _ e))).trans (kb _ _ e)
        refine ⟨.ref _, upd H h'.objs.size (.lst ys), I.laid (t' := tk) kS (Nat.le_of_lt hlt) ⟨?_, out, c, ry, hcc⟩, rfl, h.lst sm ly nf⟩
        rw [ly.len]
        show ((kvs.map (·.1)).mergeSort _).length ≤ _
        rw [List.length_mergeSort]
        exact hz
    · exact h.elim
  · exact h.elim
end
/-! ### what is walked: a list, a tuple, a dict's keys -/
/-- the keys vs of the dict at d -/
def Itr (d : Addr) (es : Array DictEntry) (ep : Nat) (vs : List V) : It :=
  ⟨fun i H => H d = some (dicO d es ep) ∧ i < es.size, fun i H x H' => H' = H ∧ vs[i]? = some x, fun i H => H d = some (dicO d es ep) ∧ es.size ≤ i⟩
theorem vals_at : ∀ {vs : List V} {us : List Value} {i : Nat} {u : Value}, Vals vs us → us[i]? = some u → ∃ v, vs[i]? = some v ∧ RelV v u
  | _, _, _, _, .nil, h => by simp at h
  | _, _, 0, _, .cons r _, h => by cases h; exact ⟨_, rfl, r⟩
  | _, _, i + 1, _, .cons _ t, h => vals_at (i := i) t (by simpa using h)
theorem turn_raw {P : Program} {w : World} {K : PySem.W.Frag} {tg : Expr} {d : Addr} {es : Array DictEntry} {ep : Nat} {vs : List V} (it : Addr) (hv : Vals vs (es.toList.map (·.key))) : Turn P w K tg (Itr d es ep vs) [it] it (fun i h => h.IsKeyIter it d i es.size ep) where
  mem := by simp
  obj := fun i h st b hb => by
    obtain rfl : b = it := by simpa using hb
    obtain ⟨oi, e, c, dd⟩ := st
    exact ⟨oi, e, fun v z => by rw [dd] at z; cases z⟩
  keep := fun i h h' st k => st.at fun oi e => k it (by simp) oi e
  item := by
    intro X hP hw hK hc i pins s σ H E I hf st ⟨hd, hi⟩
    subst hP hw hK
    obtain ⟨f0, f1, f2, f3, f4, f5⟩ := hf it (by simp)
    obtain ⟨⟨d1, d2, d3⟩, _⟩ := I.hok d _ hd
    have hen : es[i]? = some es[i] := Array.getElem?_eq_getElem hi
    obtain ⟨v, h1, h2⟩ := vals_at (i := i) (u := es[i].key) hv (by rw [List.getElem?_map, Array.getElem?_toList, hen]; rfl)
    refine next_key_item st d3 rfl rfl hen fun h' st' sb => ?_
    have I1 : Inv X pins σ H { s with heap := h' } := I.turned (t' := s.toks) (fun b ob hb e => (sb.2 b hb).trans e) f0 f1 f3 f4 f5
    obtain ⟨oi, e, c, dd⟩ := id st'
    exact ⟨_, rfl, go_of (s := { s with heap := h' }) e c dd (by decide) ⟨v, H, I1, h2, ⟨rfl, h1⟩, st', fun b hb => (hf b hb).1⟩⟩
  done := by
    intro X hP hw hK hc i pins s σ H E I hf st ⟨hd, hi⟩
    subst hP hw hK
    obtain ⟨f0, f1, f2, f3, f4, f5⟩ := hf it (by simp)
    obtain ⟨⟨d1, d2, d3⟩, _⟩ := I.hok d _ hd
    exact next_key_end (I.ok.hd hc) st d3 rfl rfl hi fun h' eb => ⟨rfl, I.turned (t' := s.toks) (fun b ob hb e => eb b ob hb e) f0 f1 f3 f4 f5⟩
  self := fun A i s Q E st h => wpAny_pyIter_keyiter st h
theorem wk_raw {K : PySem.W.Frag} {w : World} {W : Hp} {a : Addr} {es : Array DictEntry} {ep : Nat} {ds : List D} {vs : List V} (q : W a = some (dicO a es ep)) (r : RepL K w W ds vs) (hl : ds.length = es.size) : Wk K w W ds (Itr a es ep vs) where
  go i H W2 s1 s2 hi := ⟨s2 _ _ (s1 _ _ q), by omega⟩
  stop i H W2 s1 s2 hi := ⟨s2 _ _ (s1 _ _ q), by omega⟩
  yld i H W2 v H' x s1 s2 hx y := by
    obtain ⟨rfl, hv⟩ := y
    obtain ⟨v', h1, h2⟩ := r.at hx
    rw [hv] at h1
    cases h1
    exact ⟨W2, Ex.refl s2, Rep.mono s1 _ _ h2⟩
def itD : D → Option (List D)
  | .list ds => some ds
  | .tuple ds => some ds
  | .dict kvs => some (kvs.map (·.1))
  | _ => none
def iIt (f : XF) : IF := fun env => (f env).bind fun r => liftO (itD r.1) r.2
section
variable {X : Cx} {Wx : WX} {tg e : Expr} {f : XF}
theorem pi_raw {tl : TE} (hl : PE X e tl) : PI X tg e (fun σ H R => tl σ H fun x H1 => (∃ a, x = .ref a ∧ (∃ xs, SqL X.K H1 a xs) ∧ R (Itl X.K a) H1) ∨ (∃ a, x = .ref a ∧ (∃ xs, SqT X.K H1 a xs) ∧ R (Itt X.K a) H1) ∨
    (∃ a es ep vs, x = .ref a ∧ H1 a = some (dicO a es ep) ∧ Vals vs (es.toList.map (·.key)) ∧ R (Itr a es ep vs) H1)) := by
  refine ⟨fun pins s σ H R I h => ?_⟩
  refine thn (hl.run pins s σ H _ I h) fun u s1 ⟨x, H1, I1, r1, q1⟩ => ?_
  rcases q1 with ⟨a, ex, ⟨xs, hq⟩, q⟩ | ⟨a, ex, ⟨xs, hq⟩, q⟩ | ⟨a, es, ep, vs, ex, hd, hv, q⟩
  · subst ex
    cases r1
    obtain ⟨us, _, pl, _⟩ := I1.list hq
    exact wpAny_pyIter_list pl.isList (pi_one (tk := s1.toks) I1 _ (turn_list a _) ⟨_, Heap.get?_push_size _ rfl, rfl, rfl⟩ q)
  · subst ex
    cases r1
    obtain ⟨us, _, pl, _⟩ := I1.tuple hq
    exact wpAny_pyIter_tuple (show s1.heap.IsTuple a us.toArray from pl) (pi_one (tk := s1.toks) I1 _ (turn_tuple a _) ⟨_, Heap.get?_push_size _ rfl, rfl, rfl⟩ q)
  · subst ex
    cases r1
    obtain ⟨⟨d1, d2, d3⟩, _⟩ := I1.hok a _ hd
    exact iter_keys d1 d3 ⟨rfl, rfl, rfl⟩ rfl (pi_one (tk := s1.toks) I1 _ (turn_raw _ hv) ⟨_, Heap.get?_push_size _ rfl, rfl, rfl⟩ q)
theorem ei_it (h : EX X Wx e f) : EI X Wx tg e (iIt f) := by
  refine PI.wk (pi_raw h) ?_
  rintro σ H R ⟨ρ, W, env, A, S, h⟩
  refine tG_then S h fun d W1 H1 env1 A1 v S1 F1 r1 h1 => ?_
  cases d with
  | list ds =>
    simp only [Rep] at r1
    obtain ⟨a, vs, rfl, q, l⟩ := r1
    exact .inl ⟨a, rfl, ⟨vs, .of (S1.sub _ _ q)⟩, wk_of S1 h1 rfl (wk_list q l)⟩
  | tuple ds =>
    simp only [Rep] at r1
    obtain ⟨a, vs, rfl, q, l⟩ := r1
    exact .inr (.inl ⟨a, rfl, ⟨vs, Same.sqt S1.sub q⟩, wk_of S1 h1 rfl (wk_tup q l)⟩)
  | dict kvs =>
    simp only [Rep] at r1
    obtain ⟨a, es, ep, rfl, q, kv, nd⟩ := r1
    obtain ⟨vs, v1, v2⟩ := keys_vals kv
    exact .inr (.inr ⟨a, es, ep, vs, rfl, S1.sub _ _ q, v1, wk_of S1 h1 rfl (wk_raw q v2 (by rw [List.length_map, ← kv.len, Array.length_toList]))⟩)
  | _ => exact h1.elim
end
end DP
set_option Elab.async false
set_option linter.all false
set_option maxRecDepth 100000
/-! DP, part 38: k in d; reads of one's own containers that leave them one's own. -/
namespace DP
open PySem PySem.Spec PyProof.Rows L2

/-! ### k in d -/
def rInDic (X : Cx) (neg : Bool) : R2 := fun x y H Q => ∃ W a es ep k kvs, y = .ref a ∧ Same W H ∧ Rep X.K X.w W k x ∧ keyOk k = true ∧ H a = some (dicO a es ep) ∧ RepKV X.K X.w W kvs es.toList ∧ (kvs.map fun p => keyD p.1).Nodup ∧ Q (.bl (if neg then !kvs.any (kIs k) else kvs.any (kIs k))) H
section
variable {X : Cx} {Wx : WX}
theorem dic_has {pins : List (Addr × Obj)} {s : Shared} {σ : L2.St} {H W : Hp} {a : Addr} {es : Array DictEntry} {ep : Nat} {k : D} {kvs : List (D × D)} {x : V} {u : Value} {Q : Bool → Shared → Prop} {E : Value → Shared → Prop} (hu : X.A.units + 64 < cLine) (I : Inv X pins σ H s) (sm : Same W H) (rk : Rep X.K X.w W k x) (rx : RelV x u) (ok : keyOk k = true) (hH : H a = some (dicO a es ep)) (kv : RepKV X.K X.w W kvs es.toList) (nd : (kvs.map fun p => keyD p.1).Nodup)
    (h : ∀ t, Q (kvs.any (kIs k)) { s with toks := t }) : wpAny (model X.prog X.w) X.A (contains (.ref a) u) Q E s := by
  obtain ⟨kk, k1, k2⟩ := keyOk_iff ok
  obtain ⟨⟨h1, h2, h3⟩, _⟩ := I.hok a _ hH
  obtain ⟨ks, ek, N⟩ := RepKV.ents I sm kv nd
  refine dcontains N (by omega) h1 h3 (Rep.key I sm rk rx k1) k2 fun t => ?_
  have e : decide (kk ∈ ks) = kvs.any (kIs k) := by
    by_cases hm : kk ∈ ks
    · obtain ⟨j, hj⟩ := List.getElem?_of_mem hm
      obtain ⟨p, _, _, _, p4⟩ := hit_some ek nd k1 (show Hit ks kk (some j) from hj)
      rw [decide_eq_true hm, p4]
    · rw [decide_eq_false hm, (hit_none ek k1 (show Hit ks kk none from hm)).2]
  rw [e]
  exact h t
theorem op_inDic (hu : X.A.units + 64 < cLine) : OpR X (compareOp .In) (rInDic X false) := by
  intro pins s σ H x y u v Q I rx ry h
  obtain ⟨W, a, es, ep, k, kvs, rfl, sm, rk, ok, hH, kv, nd, q⟩ := h
  cases ry
  show wpAny _ _ (contains (.ref a) u >>= fun b => pure (Value.bool b)) _ _ _
  exact wpAny_bind (dic_has hu I sm rk rx ok hH kv nd fun t => wpAny_pure ⟨.bl _, H, I.tok _, rfl, q⟩)
theorem op_ninDic (hu : X.A.units + 64 < cLine) : OpR X (compareOp .NotIn) (rInDic X true) := by
  intro pins s σ H x y u v Q I rx ry h
  obtain ⟨W, a, es, ep, k, kvs, rfl, sm, rk, ok, hH, kv, nd, q⟩ := h
  cases ry
  show wpAny _ _ (contains (.ref a) u >>= fun b => pure (Value.bool (!b))) _ _ _
  exact wpAny_bind (dic_has hu I sm rk rx ok hH kv nd fun t => wpAny_pure ⟨.bl _, H, I.tok _, rfl, q⟩)
def inB2 (x y : D) : Bool := match y with
  | .dict kvs => kvs.any (kIs x)
  | _ => inB x y
def inOk2 (x y : D) : Bool := match y with
  | .dict _ => keyOk x
  | _ => inOk x y
def inD2 (x y : D) : Option D := if inOk2 x y = true then some (.bool (inB2 x y)) else none
def ninD2 (x y : D) : Option D := if inOk2 x y = true then some (.bool (!inB2 x y)) else none
theorem op_inD2 (hu : X.A.units + 64 < cLine) : OpR X (compareOp .In) (tV2 X.K X.w inD2) := by
  refine OpR.wk (OpR.or (op_inD' hu) (op_inDic hu)) ?_
  rintro v u H Q ⟨W, x, y, s, r1, r2, h⟩
  cases y with
  | dict kvs =>
    simp only [Rep] at r2
    obtain ⟨a, es, ep, rfl, q, l, nd⟩ := r2
    unfold inD2 at h
    split at h
    · rename_i c
      exact .inr ⟨W, a, es, ep, x, kvs, rfl, s, r1, c, s _ _ q, l, nd, h.flat s rfl⟩
    · exact h.elim
  | _ => exact .inl ⟨W, x, _, s, r1, r2, h⟩
theorem op_ninD2 (hu : X.A.units + 64 < cLine) : OpR X (compareOp .NotIn) (tV2 X.K X.w ninD2) := by
  refine OpR.wk (OpR.or (op_ninD' hu) (op_ninDic hu)) ?_
  rintro v u H Q ⟨W, x, y, s, r1, r2, h⟩
  cases y with
  | dict kvs =>
    simp only [Rep] at r2
    obtain ⟨a, es, ep, rfl, q, l, nd⟩ := r2
    unfold ninD2 at h
    split at h
    · rename_i c
      exact .inr ⟨W, a, es, ep, x, kvs, rfl, s, r1, c, s _ _ q, l, nd, h.flat s rfl⟩
    · exact h.elim
  | _ => exact .inl ⟨W, x, _, s, r1, r2, h⟩
end

/-! ### reads that leave a container one's own -/
def slotC (env : Ev) (i : Nat) : Option D := match env[i]? with
  | some (.fz c) => some c
  | some (.ow _ c) => some c
  | _ => none
def flatD : D → Bool
  | .bool _ => true
  | .int _ => true
  | _ => false
theorem flatD_rep {K : PySem.W.Frag} {w : World} {W W' : Hp} {d : D} {v : V} (h : flatD d = true) (r : Rep K w W d v) : Rep K w W' d v := by
  cases d <;> first | (cases h; done) | exact r
section
variable {X : Cx} {Wx : WX} {ρ : Nat → Addr} {σ : L2.St} {W H : Hp} {A : List (List Addr)} {env : Ev} {Q : VK} {i : Nat} {c : D}
/-- a world in which the container is frozen, for the while of one operation -/
theorem SR.lend (S : SR X.K X.w ρ W H env σ A) (h : slotC env i = some c) : ∃ v W1, σ[i]? = some (some v) ∧ Same W W1 ∧ Same W1 H ∧ Rep X.K X.w W1 c v := by
  unfold slotC at h
  cases e : env[i]? with
  | none => rw [e] at h; cases h
  | some sl =>
    rw [e] at h
    obtain ⟨v, l, h1, h2, h3⟩ := S.at e
    cases sl with
    | no => cases h
    | sc ns => cases h
    | nd kvs => cases h
    | xe d => cases h
    | fz d =>
      cases h
      obtain ⟨_, x, rfl, r⟩ := h3
      exact ⟨x, W, h1, Same.refl _, S.sub, r⟩
    | ow t d =>
      cases h
      obtain ⟨p, rfl, rfl, q3, q4, _⟩ := h3
      obtain ⟨o, ho, r, sb⟩ := q4.lay S.sub q3
      exact ⟨.ref p, _, h1, fun b u q => by rw [upd_ne (ne_of_none q q3)]; exact q, sb, r⟩
theorem onV_lent {W1 : Hp} {o : Option D} (S : SR X.K X.w ρ W H env σ A) (s1 : Same W W1) (hf : ∀ z, o = some z → flatD z = true) (h : onX X Wx ρ σ W H A (liftO o env) Q) : onV X.K X.w W1 H o Q := by
  cases o with
  | none => exact h
  | some z =>
    intro W' H' v e r
    have E : Ex W H W H' := ⟨Same.refl _, e.keep, (s1.trans e.ext).trans e.sub, fun _ h1 h2 => absurd h2 h1⟩
    exact h W H' A v (S.ex E) (E.fr _) (flatD_rep (hf z rfl) r)
end
def x2B (o : D → D → Option D) (f : XF) (i : Nat) : XF := fun env => (f env).bind fun r => match slotC r.2 i with
  | some c => liftO (o r.1 c) r.2
  | none => .bad
def xLenB (i : Nat) : XF := fun env => match slotC env i with
  | some c => liftO (lenD [c]) env
  | none => .bad
def xIxB (i : Nat) (g : XF) : XF := fun env => match slotC env i with
  | none => .bad
  | some _ => (g env).bind fun r => match slotC r.2 i with
    | some c => liftO (ixD c r.1) r.2
    | none => .bad
theorem inD2_flat (x y z : D) (h : inD2 x y = some z) : flatD z = true := by unfold inD2 at h; split at h <;> cases h; rfl
theorem ninD2_flat (x y z : D) (h : ninD2 x y = some z) : flatD z = true := by unfold ninD2 at h; split at h <;> cases h; rfl
theorem lenD_flat (xs : List D) (z : D) (h : lenD xs = some z) : flatD z = true := by
  unfold lenD at h
  split at h <;> first | (cases h; rfl) | (split at h <;> cases h; rfl) | (cases h; done)
section
variable {X : Cx} {Wx : WX} {i : Nat} {x : Str} {a b : Expr} {f g : XF} {p pos p2 : Pos} {op : CmpOp} {o : D → D → Option D}
theorem x2B_read {σ : L2.St} {H : Hp} {Q : VK} (hf : ∀ x y z, o x y = some z → flatD z = true) (h : tX X Wx (x2B o f i) σ H Q) : tOp (tV2 X.K X.w o) (tX X Wx f) (tVar i) σ H Q := by
  obtain ⟨ρ, W, env, A, S, h⟩ := h
  refine tG_then S h fun d W1 H1 env1 A1 v S1 F1 r1 h1 => ?_
  simp only at h1
  cases e : slotC env1 i with
  | none => rw [e] at h1; exact h1.elim
  | some c =>
    rw [e] at h1
    obtain ⟨u, W2, e1, s2, s3, r2⟩ := S1.lend e
    exact ⟨u, e1, W2, d, c, s3, Rep.mono s2 _ _ r1, r2, onV_lent S1 s2 (hf d c) h1⟩
theorem ex_cmpB (hf : ∀ x y z, o x y = some z → flatD z = true) (ho : OpR X (compareOp op) (tV2 X.K X.w o)) (ha : EX X Wx a f) (h : PE X (.Name x p) (tVar i)) (hm : behindInMarks op (.Name x p) = false := by first | exact nomark _ | rfl) : EX X Wx (.Compare a [op] [.Name x p] pos) (x2B o f i) :=
  PE.wk (pe_cmpR ho ha h hm) fun σ H Q h => x2B_read hf h
theorem et_cmpB (hf : ∀ x y z, o x y = some z → flatD z = true) (ho : OpR X (compareOp op) (tV2 X.K X.w o)) (ha : EX X Wx a f) (h : PE X (.Name x p) (tVar i)) (hm : behindInMarks op (.Name x p) = false := by first | exact nomark _ | rfl) : ET X Wx (.Compare a [op] [.Name x p] pos) (tst (x2B o f i)) :=
  PT.wk (pt_cmpR ho ha h hm) fun σ H Q h => x2B_read hf (tst_read h)
theorem ex_lenB (h : PE X (.Name x p) (tVar i)) (hg : Gl X "len") (hm : X.mg "len" = none) : EX X Wx (.Call (.Name "len" p2) [.Name x p] [] pos) (xLenB i) := by
  refine PE.wk (pe_callB cr_lenD hg hm PySem.boot_len (pa_cons h pa_nil)) ?_
  rintro σ H Q ⟨ρ, W, env, A, S, h⟩
  unfold xLenB at h
  cases e : slotC env i with
  | none => rw [e] at h; exact h.elim
  | some c =>
    rw [e] at h
    obtain ⟨u, W2, e1, s2, s3, r2⟩ := S.lend e
    exact ⟨u, e1, W2, [c], s3, RepL.cons r2 RepL.nil, onV_lent S s2 (lenD_flat _) h⟩
/-- own[k]: what is in it is frozen -/
theorem ix_own (hu : X.A.units + 64 < cLine) : IxR X (fun x y H Q => ∃ W k c z, Same W H ∧ Rep X.K X.w W k y ∧ (Rep X.K X.w W c x ∨ ∃ p, x = .ref p ∧ Own X.K X.w W H c p) ∧ ixD c k = some z ∧ ∀ W' H' v, Ex W H W' H' → Rep X.K X.w W' z v → Q v H') := by
  intro value slice pins s σ H x y v u Q I rx ry h hs
  refine ((ix_dD hu).or (ix_list.or (ix_dic hu))) value slice pins s σ H x y v u Q I rx ry ?_ hs
  obtain ⟨W, k, c, z, sm, r2, hc, e, q⟩ := h
  rcases hc with r1 | ⟨p, rfl, ow⟩
  · exact .inl ⟨W, c, k, sm, r1, r2, by rw [e]; exact q⟩
  · cases c with
    | list ds =>
      obtain ⟨vs, h1, h2⟩ := ow
      cases k with
      | int j =>
        simp only [Rep] at r2
        subst r2
        obtain ⟨w1, e1, r⟩ := h2.atI' (show atI ds j = some z from e)
        exact .inr (.inl ⟨p, vs, j, w1, rfl, rfl, .of h1, e1, q W H _ (Ex.refl sm) r⟩)
      | _ => cases e
    | dict kvs =>
      obtain ⟨es, ep, h1, h2, h3⟩ := ow
      have e' : (if keyOk k = true then dAt kvs k else none) = some z := by cases k <;> exact e
      split at e'
      · rename_i c
        exact .inr (.inr ⟨W, p, es, ep, k, kvs, rfl, sm, r2, c, h1, h2, h3, z, e', fun v r => q W H v (Ex.refl sm) r⟩)
      · cases e'
    | _ => exact ow.elim
theorem ex_ixB (hu : X.A.units + 64 < cLine) (h : PE X (.Name x p) (tVar i)) (hb : EX X Wx b g) (hs : PlainIx b) : EX X Wx (.Subscript (.Name x p) b pos) (xIxB i g) := by
  refine PE.wk (pe_ix (ix_own hu) h hb hs) ?_
  rintro σ H Q ⟨ρ, W, env, A, S, h⟩
  unfold xIxB at h
  cases e : slotC env i with
  | none => rw [e] at h; exact h.elim
  | some c0 =>
    rw [e] at h
    obtain ⟨v0, _, e0, _⟩ := S.lend e
    refine ⟨v0, e0, tG_then S h fun d W1 H1 env1 A1 u S1 F1 r1 h1 => ?_⟩
    simp only at h1
    cases e' : slotC env1 i with
    | none => rw [e'] at h1; exact h1.elim
    | some c =>
      rw [e'] at h1
      dsimp only at h1
      cases ez : ixD c d with
      | none => rw [ez] at h1; exact h1.elim
      | some z =>
        rw [ez] at h1
        refine ⟨W1, d, c, z, S1.sub, r1, ?_, ez, fun W' H' v e r => h1 W' H' A1 v (S1.ex e) (e.fr _) r⟩
        unfold slotC at e'
        cases es : env1[i]? with
        | none => rw [es] at e'; cases e'
        | some sl =>
          rw [es] at e'
          obtain ⟨v, l, g1, g2, g3⟩ := S1.at es
          rw [e0] at g1
          cases g1
          cases sl with
          | no => cases e'
          | sc ns => cases e'
          | nd kvs => cases e'
          | xe d => cases e'
          | fz d' =>
            cases e'
            obtain ⟨_, y, ey, r⟩ := g3
            cases ey
            exact .inl r
          | ow t d' =>
            cases e'
            obtain ⟨p', _, ey, _, q4, _⟩ := g3
            cases ey
            exact .inr ⟨p', rfl, q4⟩
end
end DP
set_option Elab.async false
set_option linter.all false
set_option maxRecDepth 100000
/-! DP, part 39: d[k] = v, d one's own; {}, {k: v, ..}. -/
namespace DP
open PySem PySem.Spec PyProof.Rows L2

/-! ### d[k] = v -/
def tSetRaw (X : Cx) (tv td tk : TE) : TS := fun D σ H => tv σ H fun v H1 => td σ H1 fun o H2 => tk σ H2 fun k H3 => ∃ W a es ep dk dv kvs, o = .ref a ∧ Same W H3 ∧ Rep X.K X.w W dk k ∧ keyOk dk = true ∧ Rep X.K X.w W dv v ∧ H3 a = some (dicO a es ep) ∧ RepKV X.K X.w W kvs es.toList ∧
  (kvs.map fun p => keyD p.1).Nodup ∧ kvs.length < sizeLine ∧ ∀ es' ep', RepKV X.K X.w W (dPut kvs dk dv) es'.toList → ((dPut kvs dk dv).map fun p => keyD p.1).Nodup → D.nx σ (upd H3 a (dicO a es' ep'))
section
variable {X : Cx} {Wx : WX} {o i value : Expr} {pos' pos : Pos} {tv td tk : TE}
theorem ps_setRaw (hu : X.A.units + 64 < cLine) (ho : PE X o td) (hi : PE X i tk) (hv : PE X value tv) (hs : swapsWith value (some (.Subscript o i pos')) pos.line X.env = pure false) : PS X (.Assign [.Subscript o i pos'] value pos) (tSetRaw X tv td tk) := by
  refine ⟨fun pins s σ H D I h => ?_⟩
  refine wpAny_Assign_Subscript (thn (hv.run pins s σ H _ I h) fun r s1 ⟨v, H1, I1, rv, q1⟩ => thn (ho.run pins s1 σ H1 _ I1 q1) fun u s2 ⟨x, H2, I2, rx, q2⟩ => thn (hi.run pins s2 σ H2 _ I2 q2) fun iv s3 ⟨y, H3, I3, ry, W, a, es, ep, dk, dv, kvs, ex, sm, rk, ok, rdv, hH, kv, nd, hlt, q⟩ => ?_) hs
  subst ex
  obtain rfl : u = Value.ref a := rx
  obtain ⟨kk, k1, k2⟩ := keyOk_iff ok
  obtain ⟨⟨h1, h2, h3⟩, _⟩ := I3.hok a _ hH
  obtain ⟨ks, ek, N⟩ := RepKV.ents I3 sm kv nd
  refine dset N (by omega) h3 h2 (Rep.key I3 sm rk ry k1) k2 fun h' es' ep' r' t hhit e1 e2 e3 => ?_
  have kv' : RepKV X.K X.w W (dPut kvs dk dv) es'.toList := by
    rw [e3]
    exact kv.put nd ek k1 k2 hhit ry rk rv rdv
  have hz' : es'.size ≤ sizeLine := by
    have l1 := kv'.len
    have l2 := dPut_len kvs dk dv
    have l3 : es'.toList.length = es'.size := Array.length_toList
    omega
  exact ⟨σ, _, d_write (t' := t) I3 (by rw [hH]; exact True.intro) e2 ⟨_, e1⟩ (dicO_new h1 hz' e1), q es' ep' kv' (dPut_keys nd)⟩
def sSetK (i : Nat) (fv fk : XF) : SF := fun env => (fv env).bind fun v => match v.2[i]? with
  | some (.ow _ (.dict _)) => (fk v.2).bind fun k => match k.2[i]? with
    | some (.ow t (.dict kvs)) => if keyOk k.1 = true ∧ kvs.length < sizeLine then .ok (.nx, k.2.set i (.ow t (.dict (dPut kvs k.1 v.1)))) else .bad
    | _ => .bad
  | _ => .bad
theorem es_setK {j : Nat} {x : Str} {p : Pos} {fv fk : XF} (hu : X.A.units + 64 < cLine) (hx : PE X (.Name x p) (tVar j)) (hi : EX X Wx i fk) (hv : EX X Wx value fv) (hs : swapsWith value (some (.Subscript (.Name x p) i pos')) pos.line X.env = pure false := by rfl) :
    ES X Wx (.Assign [.Subscript (.Name x p) i pos'] value pos) (sSetK j fv fk) := by
  refine PS.wk (ps_setRaw hu hx hi hv hs) ?_
  rintro D σ H ⟨ρ, W, env, A, S, h⟩
  refine tS_then S h fun d W1 H1 env1 A1 v S1 F1 r1 h1 => ?_
  simp only at h1
  cases e : env1[j]? with
  | none => rw [e] at h1; exact h1.elim
  | some sl =>
    rw [e] at h1
    obtain ⟨v0, l0, g1, g2, g3⟩ := S1.at e
    cases sl with
    | ow t0 c0 =>
      cases c0 with
      | dict kvs0 =>
        obtain ⟨p0, rfl, rfl, _⟩ := g3
        refine ⟨.ref p0, g1, ?_⟩
        dsimp only at h1
        refine tS_then S1 h1 fun k W2 H2 env2 A2 u S2 F2 r2 h2 => ?_
        simp only at h2
        cases e' : env2[j]? with
        | none => rw [e'] at h2; exact h2.elim
        | some sl =>
          rw [e'] at h2
          obtain ⟨v0, l0, f1, f2, f3⟩ := S2.at e'
          rw [g1] at f1
          cases f1
          cases sl with
          | ow t c =>
            cases c with
            | dict kvs =>
              obtain ⟨p', rfl, ep', q3, ⟨es, epo, q4, q5, q6⟩, q7⟩ := f3
              cases ep'
              dsimp only at h2
              split at h2
              · rename_i c
                refine ⟨W2, p0, es, epo, k, d, kvs, rfl, S2.sub, r2, c.1, Rep.mono F2.ext _ _ r1, q4, q5, q6, c.2, fun es' ep' kv' nd' => ?_⟩
                obtain ⟨S3, F3⟩ := S2.mut (o := dicO p0 es' ep') (c' := .dict (dPut kvs k d)) e' g1 ⟨es', ep', upd_same, kv', nd'⟩
                exact h2 W2 _ A2 σ S3 F3
              · exact h2.elim
            | _ => exact h2.elim
          | _ => exact h2.elim
      | _ => exact h1.elim
    | _ => exact h1.elim
end

/-! ### displays -/
abbrev KF := Ev → Out (List (D × D) × Ev)
def kNil : KF := fun env => .ok ([], env)
def kCons (fk fv : XF) (r : KF) : KF := fun env => (fk env).bind fun k => (fv k.2).bind fun v => (r v.2).bind fun q => .ok ((k.1, v.1) :: q.1, q.2)
section
variable (K : PySem.W.Frag) (w : World)
def RepP (W : Hp) (ds : List (D × D)) (ps : List (V × V)) : Prop := RepL K w W (ds.map (·.1)) (ps.map (·.1)) ∧ RepL K w W (ds.map (·.2)) (ps.map (·.2))
end
structure EK (X : Cx) (Wx : WX) (pos : Pos) (keys : List (Option Expr)) (values : List Expr) (f : KF) : Prop where
  run : ∀ (pins : List (Addr × Obj)) (s : Shared) (σ : L2.St) (H : Hp) (Q : List (V × V) → Hp → Prop), Inv X pins σ H s → tG X.K X.w X.mg Wx (RepP X.K X.w) f σ H Q →
    wpAny (model X.prog X.w) X.A (evalPairs (pairTrees keys values X.env pos)) (fun vs s' => ∃ ps H', Inv X pins σ H' s' ∧ VV ps vs ∧ Q ps H') X.xe s
  all : keys.all (·.isSome) = true
  len : keys.length = values.length
section
variable {X : Cx} {Wx : WX} {pos : Pos} {k v : Expr} {ks : List (Option Expr)} {vs : List Expr} {fk fv : XF} {r : KF}
theorem ek_nil : EK X Wx pos [] [] kNil := ⟨fun pins s σ H Q I h => by
  obtain ⟨ρ, W, env, A, S, h⟩ := h
  exact pairTrees_nil_walk ⟨[], H, I, .nil, h W H A [] S (Fr.refl _ _ _) ⟨RepL.nil, RepL.nil⟩⟩, rfl, rfl⟩
theorem ek_cons (hk : EX X Wx k fk) (hv : EX X Wx v fv) (hr : EK X Wx pos ks vs r) : EK X Wx pos (some k :: ks) (v :: vs) (kCons fk fv r) := ⟨fun pins s σ H Q I h => by
  obtain ⟨ρ, W, env, A, S, h⟩ := h
  have h0 : tX X Wx fk σ H fun x H1 => tX X Wx fv σ H1 fun y H2 => tG X.K X.w X.mg Wx (RepP X.K X.w) r σ H2 fun ps H3 => Q ((x, y) :: ps) H3 := by
    refine tG_then S h fun d W1 H1 env1 A1 x S1 F1 r1 h1 => ?_
    refine tG_then S1 h1 fun d2 W2 H2 env2 A2 y S2 F2 r2 h2 => ?_
    refine tG_then S2 h2 fun ds W3 H3 env3 A3 ps S3 F3 r3 h3 => ?_
    refine h3 W3 H3 A3 _ S3 (Fr.refl _ _ _) ⟨?_, ?_⟩
    · exact RepL.cons (Rep.mono (F2.ext.trans F3.ext) _ _ r1) r3.1
    · exact RepL.cons (Rep.mono F3.ext _ _ r2) r3.2
  exact pairTrees_cons_walk (thn (hk.run pins s σ H _ I h0) fun u s1 ⟨x, H1, I1, rx, q1⟩ => thn (hv.run pins s1 σ H1 _ I1 q1) fun w2 s2 ⟨y, H2, I2, ry, q2⟩ =>
    thn (hr.run pins s2 σ H2 _ I2 q2) fun ws s3 ⟨ps, H3, I3, rel, q3⟩ => ⟨(x, y) :: ps, H3, I3, .cons ⟨rx, ry⟩ rel, q3⟩), by simp [hr.all], by simp [hr.len]⟩
end
def pairsOk (ps : List (D × D)) : Bool := ps.all fun p => keyOk p.1
def xDict (g : KF) : XF := fun env => (g env).bind fun r => if pairsOk r.1 = true then .ok (.dict (dMerge [] r.1), r.2) else .bad
section
variable {P : Program} {w : World} {A : Around} {E : Value → Shared → Prop} {K : PySem.W.Frag} {W : Hp}
theorem stores {a : Addr} (hu : A.units + 16 < cLine) {h0 : Heap} (nest : ∀ d v u k, Rep K w W d v → RelV v u → keyD d = some k → NestedIs h0 k u) :
    ∀ (ds : List (D × D)) (ps : List (V × V)) (vs : List (Value × Value)) (acc : List (D × D)) (es : Array DictEntry) (ep : Nat) (s : Shared) (Q : PUnit → Shared → Prop), RepP K w W ds ps → VV ps vs → pairsOk ds = true → Heap.SameBut a h0 s.heap → (∀ o vs n, h0.get? a = some o → o.data = .seq vs n → False) →
      s.heap.get? a = some (dobj es ep) → RepKV K w W acc es.toList → (acc.map fun p => keyD p.1).Nodup → acc.length + ds.length ≤ sizeLine →
      (∀ h' tk es' ep', Heap.SameBut a h0 h' → h'.get? a = some (dobj es' ep') → RepKV K w W (dMerge acc ds) es'.toList → ((dMerge acc ds).map fun p => keyD p.1).Nodup → Q PUnit.unit { s with heap := h', toks := tk }) →
      wpAny (model P w) A (forIn vs PUnit.unit fun (x : Value × Value) (_ : PUnit) => (do dictSet a x.1 x.2; pure (ForInStep.yield PUnit.unit) : Sem (ForInStep PUnit))) Q E s
  | [], ps, vs, acc, es, ep, s, Q, rp, rv, ok, hs, hns, hS, kv, nd, hz, hQ => by
    have e1 : ps = [] := by
      have := rp.1
      simp only [List.map_nil, RepL, List.map_eq_nil_iff] at this
      exact this
    subst e1
    cases rv
    rw [List.forIn_nil]
    exact wpAny_pure (hQ s.heap s.toks es ep hs hS kv nd)
  | (k, v) :: ds, ps, vs, acc, es, ep, s, Q, rp, rv, ok, hs, hns, hS, kv, nd, hz, hQ => by
    obtain ⟨rp1, rp2⟩ := rp
    cases ps with
    | nil => simp [RepL] at rp1
    | cons p ps =>
      obtain ⟨x, y⟩ := p
      simp only [List.map_cons, RepL] at rp1 rp2
      obtain ⟨_, _, e1, a1, a2⟩ := rp1
      obtain ⟨_, _, e2, b1, b2⟩ := rp2
      cases e1
      cases e2
      cases rv with
      | @cons _ q _ vs' h t =>
        obtain ⟨u, z⟩ := q
        obtain ⟨ru, rz⟩ := h
        simp only [pairsOk, List.all_cons, Bool.and_eq_true] at ok
        obtain ⟨kk, k1, k2⟩ := keyOk_iff ok.1
        have nest1 : ∀ d v u k, Rep K w W d v → RelV v u → keyD d = some k → NestedIs s.heap k u := fun d v u k a c e => NestedIs.at (fun c o vs n e' hd => (hs.2 c (fun z => by subst z; exact hns _ _ _ e' hd)).trans e') _ _ (nest d v u k a c e)
        obtain ⟨ks, ek, N⟩ := RepKV.ents' nest1 kv nd
        have l1 := kv.len
        have l3 : es.toList.length = es.size := Array.length_toList
        simp only [List.length_cons] at hz
        rw [List.forIn_cons]
        refine wpAny_bind (wpAny_bind (dset0 N (by omega) hS (by omega) (nest1 _ _ _ _ a1 ru k1) k2 fun h2 es2 ep2 r t2 hhit e1 e2 e3 => wpAny_pure ?_))
        have kv2 : RepKV K w W (dPut acc k v) es2.toList := by
          rw [e3]
          exact kv.put nd ek k1 k2 hhit ru a1 rz b1
        have l2 := dPut_len acc k v
        exact stores hu nest ds ps vs' (dPut acc k v) es2 ep2 _ Q ⟨a2, b2⟩ t ok.2 (hs.trans e2) hns e1 kv2 (dPut_keys nd) (by omega) fun h' tk es' ep' g1 g2 g3 g4 => hQ h' tk es' ep' g1 g2 g3 g4
end
section
variable {X : Cx} {Wx : WX} {pos : Pos} {keys : List (Option Expr)} {values : List Expr} {g : KF}
theorem en_dict0 : EN X Wx (.Dict [] [] pos) (xConst (.dict [])) := by
  refine ⟨fun pins s σ H Q I h => ?_⟩
  obtain ⟨ρ, W, env, A, S, h⟩ := h
  have hn := I.hok.fresh (Nat.le_refl s.heap.objs.size)
  have hs : (s.heap.objs.size == sysModules) = false := beq_eq_false_iff_ne.mpr (Nat.ne_of_gt I.big)
  have E := Ex.junk (o := dicO s.heap.objs.size #[] 0) S.sub hn
  refine wpAny_Dict_empty ⟨.ref s.heap.objs.size, _, I.laid (t' := s.toks) (fun b o e => Heap.get?_push_of_some _ e) (Nat.le_refl _) (dicO_new hs (Nat.zero_le _) (Heap.get?_push_size _ rfl)), rfl, ?_⟩
  refine h W _ A _ (S.ex E) (E.fr _) (S.sub.free hn) ⟨#[], 0, upd_same, by simp [RepKV], by simp⟩ (fun hp => ?_) (.inr hn)
  obtain ⟨_, u, hu⟩ := S.own hp
  rw [hn] at hu; cases hu
theorem en_dict (hu : X.A.units + 64 < cLine) (hk : EK X Wx pos keys values g) (h0 : keys ≠ [] := by simp) (h15 : keys.length ≤ 15 := by decide) : EN X Wx (.Dict keys values pos) (xDict g) := by
  refine ⟨fun pins s σ H Q I h => ?_⟩
  obtain ⟨ρ, W, env, A, S, h⟩ := h
  have hn := I.hok.fresh (Nat.le_refl s.heap.objs.size)
  have hs : (s.heap.objs.size == sysModules) = false := beq_eq_false_iff_ne.mpr (Nat.ne_of_gt I.big)
  have E := Ex.junk (o := dicO s.heap.objs.size #[] 0) S.sub hn
  have I1 : Inv X pins σ (upd H s.heap.objs.size (dicO s.heap.objs.size #[] 0)) { s with heap := s.heap.push { cls := .type "dict", data := .dict #[] } } := I.laid (t' := s.toks) (fun b o e => Heap.get?_push_of_some _ e) (Nat.le_refl _) (dicO_new hs (Nat.zero_le _) (Heap.get?_push_size _ rfl))
  generalize hp : s.heap.objs.size = p at *
  have S1 := S.ex E
  have nW : W p = none := S.sub.free hn
  have nO : ¬ ownd A p := fun z => by
    obtain ⟨_, u, hu⟩ := S.own z
    rw [hn] at hu; cases hu
  unfold xDict at h
  have key : tG X.K X.w X.mg Wx (RepP X.K X.w) g σ (upd H p (dicO p #[] 0)) fun ps H2 => H2 p = some (dicO p #[] 0) ∧ ∃ W2 ds, Same W2 H2 ∧ RepP X.K X.w W2 ds ps ∧ pairsOk ds = true ∧ ∀ es' ep', RepKV X.K X.w W2 (dMerge [] ds) es'.toList → ((dMerge [] ds).map fun q => keyD q.1).Nodup → Q (.ref p) (upd H2 p (dicO p es' ep')) := by
    refine ⟨ρ, W, env, A, S1, ?_⟩
    cases eg : g env with
    | bad => rw [eg] at h; exact h.elim
    | exc c d e' =>
      rw [eg] at h
      exact fun C W' H' A' dx v g S' F' x r' => h C W' H' A' dx v g S' ((E.fr _).trans F') x r'
    | ok r =>
      obtain ⟨ds, env2⟩ := r
      rw [eg] at h
      intro W2 H2 A2 ps S2 F2 r2
      have e2 : H2 p = some (dicO p #[] 0) := F2.keep p _ upd_same nO
      have n2 : W2 p = none := by
        cases z : W2 p with
        | none => rfl
        | some u =>
          rcases F2.new p (by rw [z]; exact fun z => nomatch z) nW with q | q
          · exact absurd q nO
          · rw [upd_same] at q; cases q
      have o2 : ¬ ownd A2 p := fun z => by
        rcases F2.own p z with q | q
        · exact nO q
        · rw [upd_same] at q; cases q
      have back : ∀ b, upd H p (dicO p #[] 0) b = none → H b = none := fun b q => by
        by_cases hb : b = p
        · rw [hb]; exact hn
        · rwa [upd_ne hb] at q
      refine ⟨e2, W2, ds, S2.sub, r2, ?_⟩
      rw [Out.bind_ok] at h
      dsimp only at h
      split at h
      · rename_i c
        refine ⟨c, fun es' ep' kv' nd' => ?_⟩
        have sub' : Same W2 (upd H2 p (dicO p es' ep')) := fun b u q => by rw [upd_ne (ne_of_none q n2)]; exact S2.sub b u q
        refine h W2 _ A2 p (S2.keep (Same.refl _) sub' fun b hb => ⟨upd_ne fun z => o2 (z ▸ hb), (S2.own hb).1⟩) ⟨F2.ext, fun b u q nb => ?_, fun b q1 q2 => ?_, fun b q => ?_⟩ n2 ⟨es', ep', upd_same, kv', nd'⟩ o2 (.inr hn)
        · have hb : b ≠ p := ne_of_none q hn
          rw [upd_ne hb]
          exact F2.keep b u (by rw [upd_ne hb]; exact q) nb
        · exact (F2.new b q1 q2).imp id (back b)
        · exact (F2.own b q).imp id (back b)
      · exact h.elim
  have hl := pairTrees_length keys values X.env pos hk.all hk.len
  rw [arm_eval_Dict, zip_pairTrees keys values X.env pos hk.all hk.len, dictDisplay_pairs _ (by
    intro e
    rw [e] at hl
    exact h0 (List.eq_nil_of_length_eq_zero hl.symm)) (by omega)]
  refine wpAny_bind (wpAny_standAt (wpAny_bind ?_))
  unfold subDict
  refine wpAny_bind (wpAny_alloc ?_)
  refine wpAny_bind (wpAny_holding ?_)
  rw [if_pos (by omega)]
  refine wpAny_bind (wpAny_mono (wpAny_evalPairs_len (hk.run pins _ σ _ _ I1 key)) (fun vs s2 h₁ => ?_) fun _ _ e => e)
  obtain ⟨hvl, ps, H2, I2, rel, e2, W2, ds, sm2, rp, ok, q⟩ := h₁
  obtain ⟨⟨d1, d2, d3⟩, _⟩ := I2.hok p _ e2
  have dl : ds.length = vs.length := by
    have h1 := rp.1.len
    have h2 := Paired.length rel
    simp only [List.length_map] at h1
    omega
  refine wpAny_holding ?_
  refine wpAny_bind ?_
  rw [hp]
  refine stores (K := X.K) (W := W2) (h0 := s2.heap) (by omega) (fun d v u k r1 r2 e => Rep.key I2 sm2 r1 r2 e) ds ps vs [] #[] 0 s2 _ rp rel ok (Heap.SameBut.refl _ _) (fun o vs n e hd => by rw [d3] at e; cases e; cases hd) d3 (by simp [RepKV]) (by simp) (by rw [sizeLine_eq, List.length_nil]; omega) fun h' tk es' ep' g1 g2 g3 g4 => wpAny_pure (wpAny_pure ?_)
  have hz' : es'.size ≤ sizeLine := by
    have l1 := g3.len
    have l2 := dMerge_len ds []
    have l3 : es'.toList.length = es'.size := Array.length_toList
    rw [List.length_nil] at l2
    rw [sizeLine_eq]
    omega
  exact wpAny_pure ⟨.ref p, _, d_write (t' := tk) I2 (by rw [e2]; exact True.intro) g1 ⟨_, g2⟩ (dicO_new d1 hz' g2), rfl, q es' ep' g3 g4⟩
end
end DP
set_option Elab.async false
set_option linter.all false
set_option maxRecDepth 100000
/-! DP, part 40: dicts with int keys compared; repr of data with dicts. -/
namespace DP
open PySem PySem.Spec PyProof.Rows L2

def intKV : List (D × D) → Option (List (Int × D))
  | [] => some []
  | (.int i, d) :: r => (intKV r).map fun l => (i, d) :: l
  | _ => none
def lookI (m : List (Int × D)) (k : Int) : Option D := (m.find? fun p => decide (p.1 = k)).map (·.2)
def eqAt (ys : List (Int × D)) (p : Int × D) : Bool := match lookI ys p.1 with
  | some e => p.2.eqv e
  | none => false
def eqKV (xs ys : List (Int × D)) : Bool := xs.length == ys.length && xs.all (eqAt ys)
def plainV (xs : List (Int × D)) : Bool := xs.all fun p => p.2.plain && decide (p.2.depth ≤ 60)
def eqKVO (a b : List (D × D)) : Option Bool := match intKV a, intKV b with
  | some xs, some ys => if (plainV xs && plainV ys) = true then some (eqKV xs ys) else none
  | _, _ => none
def eqD2 (x y : D) : Option D := match x, y with
  | .dict a, .dict b => (eqKVO a b).map .bool
  | _, _ => eqD x y
def neD2 (x y : D) : Option D := match x, y with
  | .dict a, .dict b => (eqKVO a b).map fun q => .bool (!q)
  | _, _ => neD x y
section
variable {P : Program} {w : World} {K : PySem.W.Frag} {W : Hp}
/-- the dict's pairs, and the data of each -/
inductive KA (K : PySem.W.Frag) (w : World) (W : Hp) : List (Int × D) → List (Int × Value) → Prop
  | nil : KA K w W [] []
  | cons {k : Int} {d : D} {u : Value} {v : V} {xs : List (Int × D)} {ka : List (Int × Value)} : RelV v u → Rep K w W d v → KA K w W xs ka → KA K w W ((k, d) :: xs) ((k, u) :: ka)
theorem KA.keys {xs : List (Int × D)} {ka : List (Int × Value)} (h : KA K w W xs ka) : ka.map (·.1) = xs.map (·.1) := by
  induction h with
  | nil => rfl
  | cons _ _ _ ih => simp [ih]
theorem KA.len {xs : List (Int × D)} {ka : List (Int × Value)} (h : KA K w W xs ka) : ka.length = xs.length := by
  have := congrArg List.length h.keys
  simpa using this
theorem KA.at {xs : List (Int × D)} {ka : List (Int × Value)} (h : KA K w W xs ka) (k : Int) : (lookI xs k = none ∧ valueAt ka k = none) ∨ ∃ d u v, lookI xs k = some d ∧ (k, d) ∈ xs ∧ valueAt ka k = some u ∧ RelV v u ∧ Rep K w W d v := by
  induction h with
  | nil => exact .inl ⟨rfl, rfl⟩
  | @cons k' d u v xs ka r1 r2 _ ih =>
    by_cases e : k' = k
    · subst e
      exact .inr ⟨d, u, v, by simp [lookI], by simp, by simp [valueAt], r1, r2⟩
    · rcases ih with ⟨a, b⟩ | ⟨d', u', v', a, m, b, c⟩
      · exact .inl ⟨by simpa [lookI, e] using a, by simpa [valueAt, e] using b⟩
      · exact .inr ⟨d', u', v', by simpa [lookI, e] using a, List.mem_cons_of_mem _ m, by simpa [valueAt, e] using b, c⟩
theorem intKV_keys : ∀ {kvs : List (D × D)} {xs : List (Int × D)}, intKV kvs = some xs → kvs.map (fun p => keyD p.1) = xs.map fun p => some (NestedKey.num p.1)
  | [], _, e => by cases e; rfl
  | (k, d) :: r, xs, e => by
    cases k with
    | int i =>
      unfold intKV at e
      obtain ⟨l, e1, rfl⟩ := Option.map_eq_some_iff.mp e
      rw [List.map_cons, List.map_cons, intKV_keys e1]
      rfl
    | _ => cases e
theorem ka_of (P : Program) : ∀ {kvs : List (D × D)} {es : List DictEntry} {xs : List (Int × D)}, RepKV K w W kvs es → intKV kvs = some xs →
    ∃ ka, KA K w W xs ka ∧ Pairs (PySem.intKind P w) es ka ∧ ∀ e ∈ es, ∃ k, (PySem.intKind P w).is k e.key = true ∧ e.hash = (PySem.intKind P w).hash k
  | [], _, _, h, e => by
    simp only [RepKV] at h
    subst h
    cases e
    exact ⟨[], .nil, .nil, fun _ h => nomatch h⟩
  | (k, d) :: r, es, xs, h, e => by
    simp only [RepKV] at h
    obtain ⟨en, q, rfl, ⟨kk, a1, a2, a3⟩, ⟨x, b1, b2⟩, ⟨y, c1, c2⟩, h5⟩ := h
    cases k with
    | int i =>
      unfold intKV at e
      obtain ⟨l, e1, rfl⟩ := Option.map_eq_some_iff.mp e
      obtain ⟨ka, f1, f2, f3⟩ := ka_of P h5 e1
      simp only [Rep] at b2
      subst b2
      obtain ⟨t, ek⟩ := b1
      have isK : (PySem.intKind P w).is i en.key = true := by rw [ek]; simp [PySem.intKind, Value.isInt]
      have hk : en.hash = (PySem.intKind P w).hash i := by
        simp only [keyD, Option.some.injEq] at a1
        rw [a3, ← a1]
        rfl
      refine ⟨(i, en.val) :: ka, .cons c1 c2 f1, .cons isK rfl f2, fun e' he' => ?_⟩
      rcases List.mem_cons.mp he' with z | z
      · subst z; exact ⟨i, isK, hk⟩
      · exact f3 e' z
    | _ => cases e
end
section
variable {X : Cx} {pins : List (Addr × Obj)} {σ : L2.St} {s : Shared} {H W : Hp}
theorem dic_ka (I : Inv X pins σ H s) {a : Addr} {es : Array DictEntry} {ep : Nat} {kvs : List (D × D)} {xs : List (Int × D)} (hH : H a = some (dicO a es ep)) (kv : RepKV X.K X.w W kvs es.toList) (nd : (kvs.map fun p => keyD p.1).Nodup) (e : intKV kvs = some xs) :
    (a == sysModules) = false ∧ ∃ ka, s.heap.DictOf (PySem.intKind X.prog X.w) a ka ∧ KA X.K X.w W xs ka := by
  obtain ⟨⟨h1, h2, h3⟩, _⟩ := I.hok a _ hH
  obtain ⟨ka, f1, f2, f3⟩ := ka_of X.prog kv e
  refine ⟨h1, ka, ⟨_, es, ep, h3, ⟨rfl, rfl, rfl⟩, rfl, fun e' he' => f3 e' (by simpa using he'), f2, ?_⟩, f1⟩
  rw [f1.keys]
  rw [intKV_keys e] at nd
  have : xs.map (fun p => some (NestedKey.num p.1)) = (xs.map (·.1)).map fun i => some (NestedKey.num i) := by rw [List.map_map]; rfl
  rw [this] at nd
  exact List.Pairwise.of_map (fun i : Int => some (NestedKey.num i)) (fun a b h z => h (by rw [z])) nd
theorem ka_hits (I : Inv X pins σ H s) (sm : Same W H) {A : Around} (hu : A.units + 61 < cLine) {ys : List (Int × D)} {kb : List (Int × Value)} (hb : KA X.K X.w W ys kb) (pb : plainV ys = true) {xs : List (Int × D)} {ka : List (Int × Value)} (ha : KA X.K X.w W xs ka) (pa : plainV xs = true) :
    PySem.W.KeqHits A s kb ka (xs.all (eqAt ys)) := by
  induction ha with
  | nil => exact .nil
  | @cons k d u v xs ka r1 r2 _ ih =>
    simp only [plainV, List.all_cons, Bool.and_eq_true, decide_eq_true_eq] at pa
    rw [List.all_cons]
    rcases hb.at k with ⟨e1, e2⟩ | ⟨d', u', v', e1, m, e2, e3, e4⟩
    · have : eqAt ys (k, d) = false := by simp [eqAt, e1]
      rw [this, Bool.false_and]
      exact .miss e2
    · have : eqAt ys (k, d) = d.eqv d' := by simp [eqAt, e1]
      rw [this]
      have pd : d'.plain = true ∧ d'.depth ≤ 60 := by
        have := List.all_eq_true.mp pb _ m
        simpa using this
      obtain ⟨as, ra⟩ := Rep.reads I sm d v u r2 r1
      obtain ⟨bs, rb⟩ := Rep.reads I sm d' v' u' e4 e3
      exact .hit e2 (PySem.SeqAt.eqAt_plain d d' A s u u' as bs ra rb pa.1.1 pd.1 (by omega)) (ih pa.2)
def rEqDic (X : Cx) (neg : Bool) : R2 := fun x y H Q => ∃ W a b es ep es' ep' kvs kws r, x = .ref a ∧ y = .ref b ∧ Same W H ∧ H a = some (dicO a es ep) ∧ H b = some (dicO b es' ep') ∧ RepKV X.K X.w W kvs es.toList ∧ (kvs.map fun p => keyD p.1).Nodup ∧ RepKV X.K X.w W kws es'.toList ∧ (kws.map fun p => keyD p.1).Nodup ∧
  eqKVO kvs kws = some r ∧ Q (.bl (if neg then !r else r)) H
theorem op_eqDic (hu : X.A.units + 64 < cLine) : OpR X (compareOp .Eq) (rEqDic X false) := by
  intro pins s σ H x y u v Q I rx ry h
  obtain ⟨W, a, b, es, ep, es', ep', kvs, kws, r, rfl, rfl, sm, ha, hb, kv, nd, kv', nd', e, q⟩ := h
  cases rx
  cases ry
  unfold eqKVO at e
  split at e
  · rename_i xs ys ex ey
    split at e
    · rename_i c
      cases e
      rw [Bool.and_eq_true] at c
      obtain ⟨a1, ka, da, f1⟩ := dic_ka I ha kv nd ex
      obtain ⟨b1, kb, db, f2⟩ := dic_ka I hb kv' nd' ey
      refine PySem.W.keq_eq a1 b1 da db (by omega) (fun _ => ka_hits I sm (by simp only [Around.in1_units]; omega) f2 c.2 f1 c.1) ⟨.bl _, H, I, rfl, ?_⟩
      rw [f1.len, f2.len]
      exact q
    · cases e
  · cases e
theorem op_neDic (hu : X.A.units + 64 < cLine) : OpR X (compareOp .NotEq) (rEqDic X true) := by
  intro pins s σ H x y u v Q I rx ry h
  obtain ⟨W, a, b, es, ep, es', ep', kvs, kws, r, rfl, rfl, sm, ha, hb, kv, nd, kv', nd', e, q⟩ := h
  cases rx
  cases ry
  unfold eqKVO at e
  split at e
  · rename_i xs ys ex ey
    split at e
    · rename_i c
      cases e
      rw [Bool.and_eq_true] at c
      obtain ⟨a1, ka, da, f1⟩ := dic_ka I ha kv nd ex
      obtain ⟨b1, kb, db, f2⟩ := dic_ka I hb kv' nd' ey
      refine PySem.W.keq_ne a1 b1 da db (by omega) (fun _ => ka_hits I sm (by simp only [Around.in1_units]; omega) f2 c.2 f1 c.1) ⟨.bl _, H, I, rfl, ?_⟩
      rw [f1.len, f2.len]
      exact q
    · cases e
  · cases e
theorem op_eqD2 (hu : X.A.units + 64 < cLine) : OpR X (compareOp .Eq) (tV2 X.K X.w eqD2) := by
  refine OpR.wk (OpR.or (op_eqD' hu) (op_eqDic hu)) ?_
  rintro v u H Q ⟨W, x, y, s, r1, r2, h⟩
  unfold eqD2 at h
  split at h
  · rename_i kvs kws
    simp only [Rep] at r1 r2
    obtain ⟨a, es, ep, rfl, q, l, nd⟩ := r1
    obtain ⟨b, es', ep', rfl, q', l', nd'⟩ := r2
    cases e : eqKVO kvs kws with
    | none => rw [e] at h; exact h.elim
    | some r =>
      rw [e] at h
      exact .inr ⟨W, a, b, es, ep, es', ep', kvs, kws, r, rfl, rfl, s, s _ _ q, s _ _ q', l, nd, l', nd', e, h.flat s rfl⟩
  · exact .inl ⟨W, x, y, s, r1, r2, h⟩
theorem op_neD2 (hu : X.A.units + 64 < cLine) : OpR X (compareOp .NotEq) (tV2 X.K X.w neD2) := by
  refine OpR.wk (OpR.or (op_neD' hu) (op_neDic hu)) ?_
  rintro v u H Q ⟨W, x, y, s, r1, r2, h⟩
  unfold neD2 at h
  split at h
  · rename_i kvs kws
    simp only [Rep] at r1 r2
    obtain ⟨a, es, ep, rfl, q, l, nd⟩ := r1
    obtain ⟨b, es', ep', rfl, q', l', nd'⟩ := r2
    cases e : eqKVO kvs kws with
    | none => rw [e] at h; exact h.elim
    | some r =>
      rw [e] at h
      exact .inr ⟨W, a, b, es, ep, es', ep', kvs, kws, r, rfl, rfl, s, s _ _ q, s _ _ q', l, nd, l', nd', e, h.flat s rfl⟩
  · exact .inl ⟨W, x, y, s, r1, r2, h⟩
end
end DP
set_option Elab.async false
set_option linter.all false
set_option maxRecDepth 100000
/-! DP, part 41: repr of data with dicts in them. -/
namespace DP
open PySem PySem.Spec PyProof.Rows L2

section
variable {X : Cx} {pins : List (Addr × Obj)} {σ : L2.St} {s : Shared} {H W : Hp}
mutual
theorem rk_of (I : Inv X pins σ H s) (sm : Same W H) : ∀ (d : D) (v : V) (u : Value), Rep X.K X.w W d v → RelV v u → d.showable = true → d.shown.length ≤ sizeLine → ∃ bs, ReadAtMost s.heap d.depth bs ∧ ReprK X.prog X.w bs s.heap d.depth u d.shown
  | .none, v, u, r, ru, hs, hz => let ⟨_, ra⟩ := Rep.reads I sm _ v u r ru; ReprK.of_reads ra hs (PyData.noDict_hsm (by simp [PyData.hasDict])) hz
  | .bool b, v, u, r, ru, hs, hz => let ⟨_, ra⟩ := Rep.reads I sm _ v u r ru; ReprK.of_reads ra hs (PyData.noDict_hsm (by simp [PyData.hasDict])) hz
  | .int i, v, u, r, ru, hs, hz => let ⟨_, ra⟩ := Rep.reads I sm _ v u r ru; ReprK.of_reads ra hs (PyData.noDict_hsm (by simp [PyData.hasDict])) hz
  | .str x, v, u, r, ru, hs, hz => let ⟨_, ra⟩ := Rep.reads I sm _ v u r ru; ReprK.of_reads ra hs (PyData.noDict_hsm (by simp [PyData.hasDict])) hz
  | .list ds, v, u, r, ru, hs, hz => by
    have hz' : (listText (PyData.shownAll ds)).length ≤ sizeLine := by simpa only [PyData.shown] using hz
    simp only [Rep] at r
    obtain ⟨a, vs, rfl, q, l⟩ := r
    cases ru
    obtain ⟨its, rv, ⟨o, n, e1, e2, _, e3⟩, _⟩ := I.list (xs := vs) (.of (sm _ _ q))
    obtain ⟨bs, hb, hk⟩ := rkA_of I sm ds vs its l rv (by simpa [PyData.showable] using hs) (fun t ht => Nat.le_trans (listText_mem_le ht) hz')
    obtain ⟨as, ra⟩ := RepL.reads I sm ds vs its l rv
    have r : Reads s.heap (.ref a) (.list ds) _ := .list e1 e2 e3 (by simpa using ra)
    have hna : a ∉ bs := not_mem_of_deeper r (by simp only [PyData.depth]; omega) hb
    refine ⟨a :: bs, ReadAtMost.cons r (by simp only [PyData.depth]; omega) hb, ?_⟩
    simp only [PyData.depth, PyData.shown]
    cases its with
    | nil =>
      cases ra
      simp only [PyData.shownAll, listText_nil]
      exact ReprK.listEmpty e1 e2 e3
    | cons x l => exact ReprK.list e1 e2 e3 hna (by simpa using hk.length_eq) (fun i y e => hk.item i y (by simpa using e))
  | .tuple ds, v, u, r, ru, hs, hz => by
    have hz' : (tupleText (PyData.shownAll ds)).length ≤ sizeLine := by simpa only [PyData.shown] using hz
    simp only [Rep] at r
    obtain ⟨a, vs, rfl, q, l⟩ := r
    cases ru
    obtain ⟨its, rv, ⟨o, e1, e2, n, e3⟩, _⟩ := I.tuple (Same.sqt sm q)
    obtain ⟨bs, hb, hk⟩ := rkA_of I sm ds vs its l rv (by simpa [PyData.showable] using hs) (fun t ht => Nat.le_trans (tupleText_mem_le ht) hz')
    obtain ⟨as, ra⟩ := RepL.reads I sm ds vs its l rv
    have r : Reads s.heap (.ref a) (.tuple ds) _ := .tuple e1 e2 e3 (by simpa using ra)
    have hna : a ∉ bs := not_mem_of_deeper r (by simp only [PyData.depth]; omega) hb
    refine ⟨a :: bs, ReadAtMost.cons r (by simp only [PyData.depth]; omega) hb, ?_⟩
    simp only [PyData.depth, PyData.shown]
    exact ReprK.tuple e1 e2 e3 hna (by simpa using hk)
  | .dict kvs, v, u, r, ru, hs, hz => by
    have hz' : (dictText (PyData.shownKv kvs)).length ≤ sizeLine := by simpa only [PyData.shown] using hz
    simp only [Rep] at r
    obtain ⟨a, es, ep, rfl, q, l, _⟩ := r
    cases ru
    obtain ⟨⟨hsys, _, e1⟩, _⟩ := I.hok a _ (sm _ _ q)
    obtain ⟨hs1, hs2⟩ := PyData.showableKv_split kvs (by simpa [PyData.showable] using hs)
    obtain ⟨as, bs, ra, rb⟩ := RepKV.reads I sm kvs es.toList l
    obtain ⟨⟨b1, hb1, k1⟩, b2, hb2, k2⟩ := rkK_of I sm kvs es.toList l hs1 hs2 (fun t ht => let ⟨p, hp, hl⟩ := PyData.shownKv_key_le kvs t ht; Nat.le_trans hl (Nat.le_trans (dictText_mem_le hp) hz')) (fun t ht => let ⟨p, hp, hl⟩ := PyData.shownKv_val_le kvs t ht; Nat.le_trans hl (Nat.le_trans (dictText_mem_le hp) hz'))
    have r : Reads s.heap (.ref a) (.dict kvs) _ := .dict e1 rfl rfl ra rb
    have hb : ReadAtMost s.heap (PyData.depthKv kvs) (b1 ++ b2) := (hb1.mono (PyData.depthAll_keys_le kvs)).append (hb2.mono (PyData.depthAll_vals_le kvs))
    have hna : a ∉ b1 ++ b2 := not_mem_of_deeper r (by simp only [PyData.depth]; omega) hb
    refine ⟨a :: (b1 ++ b2), ReadAtMost.cons r (by simp only [PyData.depth]; omega) hb, ?_⟩
    simp only [PyData.depth, PyData.shown, PyData.shownKv_eq]
    exact ReprK.dict e1 rfl rfl hsys hna (ReprEntriesK.of_two es.toList _ _
      (k1.more_le (fun b hb => List.mem_append_left _ hb) (PyData.depthAll_keys_le kvs)) (k2.more_le (fun b hb => List.mem_append_right _ hb) (PyData.depthAll_vals_le kvs)))
theorem rkA_of (I : Inv X pins σ H s) (sm : Same W H) : ∀ (ds : List D) (vs : List V) (us : List Value), RepL X.K X.w W ds vs → Vals vs us → PyData.showableAll ds = true → (∀ t ∈ PyData.shownAll ds, t.length ≤ sizeLine) →
    ∃ bs, ReadAtMost s.heap (PyData.depthAll ds) bs ∧ ReprAllK X.prog X.w bs s.heap (PyData.depthAll ds) us (PyData.shownAll ds)
  | [], vs, us, r, ru, hs, hz => by
    simp only [RepL] at r
    subst r
    cases ru
    exact ⟨[], (fun _ h => nomatch h), by simp only [PyData.shownAll]; exact .nil⟩
  | d :: ds, vs, us, r, ru, hs, hz => by
    simp only [RepL] at r
    obtain ⟨v, q, rfl, r1, r2⟩ := r
    cases ru with
    | cons u1 u2 =>
      have hs' : d.showable = true ∧ PyData.showableAll ds = true := by simpa [PyData.showableAll] using hs
      obtain ⟨b1, hb1, k1⟩ := rk_of I sm d v _ r1 u1 hs'.1 (hz _ (by simp only [PyData.shownAll]; exact List.mem_cons_self ..))
      obtain ⟨b2, hb2, k2⟩ := rkA_of I sm ds q _ r2 u2 hs'.2 (fun t ht => hz t (by simp only [PyData.shownAll]; exact List.mem_cons_of_mem _ ht))
      refine ⟨b1 ++ b2, ?_, ?_⟩
      · intro b hm
        simp only [PyData.depthAll]
        rcases List.mem_append.mp hm with hm | hm
        · obtain ⟨d', as', r', hd'⟩ := hb1 b hm
          exact ⟨d', as', r', Nat.le_trans hd' (Nat.le_max_left _ _)⟩
        · obtain ⟨d', as', r', hd'⟩ := hb2 b hm
          exact ⟨d', as', r', Nat.le_trans hd' (Nat.le_max_right _ _)⟩
      · simp only [PyData.depthAll, PyData.shownAll]
        exact .cons ((k1.more fun b hb => List.mem_append_left _ hb).level_le (Nat.le_max_left _ _)) (k2.more_le (fun b hb => List.mem_append_right _ hb) (Nat.le_max_right _ _))
theorem rkK_of (I : Inv X pins σ H s) (sm : Same W H) : ∀ (kvs : List (D × D)) (es : List DictEntry), RepKV X.K X.w W kvs es → PyData.showableAll (kvs.map (·.1)) = true → PyData.showableAll (kvs.map (·.2)) = true →
    (∀ t ∈ PyData.shownAll (kvs.map (·.1)), t.length ≤ sizeLine) → (∀ t ∈ PyData.shownAll (kvs.map (·.2)), t.length ≤ sizeLine) →
    (∃ bs, ReadAtMost s.heap (PyData.depthAll (kvs.map (·.1))) bs ∧ ReprAllK X.prog X.w bs s.heap (PyData.depthAll (kvs.map (·.1))) (es.map (·.key)) (PyData.shownAll (kvs.map (·.1)))) ∧
    ∃ bs, ReadAtMost s.heap (PyData.depthAll (kvs.map (·.2))) bs ∧ ReprAllK X.prog X.w bs s.heap (PyData.depthAll (kvs.map (·.2))) (es.map (·.val)) (PyData.shownAll (kvs.map (·.2)))
  | [], es, r, _, _, _, _ => by
    simp only [RepKV] at r
    subst r
    exact ⟨⟨[], (fun _ h => nomatch h), by simp only [PyData.shownAll, List.map_nil]; exact .nil⟩, [], (fun _ h => nomatch h), by simp only [PyData.shownAll, List.map_nil]; exact .nil⟩
  | (k, d) :: kvs, es, r, hs1, hs2, hz1, hz2 => by
    simp only [RepKV] at r
    obtain ⟨en, q, rfl, _, ⟨x, x1, x2⟩, ⟨y, y1, y2⟩, h5⟩ := r
    simp only [List.map_cons] at hs1 hs2 hz1 hz2 ⊢
    have hs1' : k.showable = true ∧ PyData.showableAll (kvs.map (·.1)) = true := by simpa [PyData.showableAll] using hs1
    have hs2' : d.showable = true ∧ PyData.showableAll (kvs.map (·.2)) = true := by simpa [PyData.showableAll] using hs2
    obtain ⟨a1, ha1, i1⟩ := rk_of I sm k x _ x2 x1 hs1'.1 (hz1 _ (by simp only [PyData.shownAll]; exact List.mem_cons_self ..))
    obtain ⟨a2, ha2, i2⟩ := rk_of I sm d y _ y2 y1 hs2'.1 (hz2 _ (by simp only [PyData.shownAll]; exact List.mem_cons_self ..))
    obtain ⟨⟨b1, hb1, k1⟩, b2, hb2, k2⟩ := rkK_of I sm kvs q h5 hs1'.2 hs2'.2 (fun t ht => hz1 t (by simp only [PyData.shownAll]; exact List.mem_cons_of_mem _ ht)) (fun t ht => hz2 t (by simp only [PyData.shownAll]; exact List.mem_cons_of_mem _ ht))
    refine ⟨⟨a1 ++ b1, ?_, ?_⟩, a2 ++ b2, ?_, ?_⟩
    · intro b hm
      simp only [PyData.depthAll]
      rcases List.mem_append.mp hm with hm | hm
      · obtain ⟨d', as', r', hd'⟩ := ha1 b hm
        exact ⟨d', as', r', Nat.le_trans hd' (Nat.le_max_left _ _)⟩
      · obtain ⟨d', as', r', hd'⟩ := hb1 b hm
        exact ⟨d', as', r', Nat.le_trans hd' (Nat.le_max_right _ _)⟩
    · simp only [PyData.depthAll, PyData.shownAll]
      exact .cons ((i1.more fun b hb => List.mem_append_left _ hb).level_le (Nat.le_max_left _ _)) (k1.more_le (fun b hb => List.mem_append_right _ hb) (Nat.le_max_right _ _))
    · intro b hm
      simp only [PyData.depthAll]
      rcases List.mem_append.mp hm with hm | hm
      · obtain ⟨d', as', r', hd'⟩ := ha2 b hm
        exact ⟨d', as', r', Nat.le_trans hd' (Nat.le_max_left _ _)⟩
      · obtain ⟨d', as', r', hd'⟩ := hb2 b hm
        exact ⟨d', as', r', Nat.le_trans hd' (Nat.le_max_right _ _)⟩
    · simp only [PyData.depthAll, PyData.shownAll]
      exact .cons ((i2.more fun b hb => List.mem_append_left _ hb).level_le (Nat.le_max_left _ _)) (k2.more_le (fun b hb => List.mem_append_right _ hb) (Nat.le_max_right _ _))
end
theorem showsBy_rep (I : Inv X pins σ H s) (sm : Same W H) {d : D} {v : V} {a : Addr} (r : Rep X.K X.w W d v) (ru : RelV v (.ref a)) (hs : d.showable = true) (hsz : d.shown.length ≤ sizeLine) : ∃ T idr, ShowsBy X.prog X.w s.heap a d T idr := by
  cases d with
  | none => simp only [Rep] at r; subst r; cases ru
  | bool b => simp only [Rep] at r; subst r; cases ru
  | int i => simp only [Rep] at r; subst r; obtain ⟨t, e⟩ := ru; cases e
  | str x => simp only [Rep] at r; subst r; obtain ⟨t, e⟩ := ru; cases e
  | list ds =>
    have hz' : (listText (PyData.shownAll ds)).length ≤ sizeLine := by simpa only [PyData.shown] using hsz
    simp only [Rep] at r
    obtain ⟨a, vs, rfl, q, l⟩ := r
    cases ru
    obtain ⟨its, rv, ⟨o, n, h1, h2, _, h3⟩, _⟩ := I.list (xs := vs) (.of (sm _ _ q))
    obtain ⟨bs, hb, hk⟩ := rkA_of I sm ds vs its l rv (by simpa [PyData.showable] using hs) (fun t ht => Nat.le_trans (listText_mem_le ht) hz')
    obtain ⟨as, ra⟩ := RepL.reads I sm ds vs its l rv
    have hna : a ∉ bs := not_mem_of_deeper (.list h1 h2 h3 (by simpa using ra)) (by simp only [PyData.depth]; omega) hb
    refine ⟨"list", "list.__repr__", F.slot_list_repr.toG, F.slot_list_str, F.slot_list_format, fun s hk0 => ⟨o, hk0 _ _ h1, h2⟩, fun A E s Q hg hu hk0 hQ => ?_⟩
    simp only [PyData.depth] at hu
    simp only [PyData.shown] at hQ
    cases its with
    | nil =>
      cases ra
      simp only [PyData.shownAll, listText_nil] at hQ
      exact call_list_repr_empty ⟨o, hk0 _ _ h1, h2⟩ (hk0 _ _ h1) h3 (hQ s.heap _ _ fun _ _ e => e)
    | cons x l => exact call_list_reprK h1 h2 h3 hna (by simpa using hk.length_eq) (fun i y e => hk.item i y (by simpa using e)) hg (fun b _ => Clear.nil b) hu hk0 hQ hz'
  | tuple ds =>
    have hz' : (tupleText (PyData.shownAll ds)).length ≤ sizeLine := by simpa only [PyData.shown] using hsz
    simp only [Rep] at r
    obtain ⟨a, vs, rfl, q, l⟩ := r
    cases ru
    obtain ⟨its, rv, ⟨o, h1, h2, n, h3⟩, _⟩ := I.tuple (Same.sqt sm q)
    obtain ⟨bs, hb, hk⟩ := rkA_of I sm ds vs its l rv (by simpa [PyData.showable] using hs) (fun t ht => Nat.le_trans (tupleText_mem_le ht) hz')
    obtain ⟨as, ra⟩ := RepL.reads I sm ds vs its l rv
    have hna : a ∉ bs := not_mem_of_deeper (.tuple h1 h2 h3 (by simpa using ra)) (by simp only [PyData.depth]; omega) hb
    refine ⟨"tuple", "tuple.__repr__", F.slot_tuple_repr, F.slot_tuple_str, F.slot_tuple_format, fun s hk0 => ⟨o, hk0 _ _ h1, h2⟩, fun A E s Q hg hu hk0 hQ => ?_⟩
    simp only [PyData.depth] at hu
    simp only [PyData.shown] at hQ
    exact call_tuple_reprK h1 h2 h3 hna (by simpa using hk) hg (fun b _ => Clear.nil b) hu hk0 hQ hz'
  | dict kvs =>
    have hz' : (dictText (PyData.shownKv kvs)).length ≤ sizeLine := by simpa only [PyData.shown] using hsz
    simp only [Rep] at r
    obtain ⟨a, es, ep, rfl, q, l, _⟩ := r
    cases ru
    obtain ⟨⟨hsys, _, h1⟩, _⟩ := I.hok a _ (sm _ _ q)
    obtain ⟨hs1, hs2⟩ := PyData.showableKv_split kvs (by simpa [PyData.showable] using hs)
    obtain ⟨as, bs, ra, rb⟩ := RepKV.reads I sm kvs es.toList l
    obtain ⟨⟨b1, hb1, k1⟩, b2, hb2, k2⟩ := rkK_of I sm kvs es.toList l hs1 hs2 (fun t ht => let ⟨p, hp, hl⟩ := PyData.shownKv_key_le kvs t ht; Nat.le_trans hl (Nat.le_trans (dictText_mem_le hp) hz')) (fun t ht => let ⟨p, hp, hl⟩ := PyData.shownKv_val_le kvs t ht; Nat.le_trans hl (Nat.le_trans (dictText_mem_le hp) hz'))
    have hb : ReadAtMost s.heap (PyData.depthKv kvs) (b1 ++ b2) := (hb1.mono (PyData.depthAll_keys_le kvs)).append (hb2.mono (PyData.depthAll_vals_le kvs))
    have hna : a ∉ b1 ++ b2 := not_mem_of_deeper (.dict h1 rfl rfl ra rb) (by simp only [PyData.depth]; omega) hb
    refine ⟨"dict", "dict.__repr__", F.slot_dict_repr, F.slot_dict_str, F.slot_dict_format, fun s hk0 => ⟨_, hk0 _ _ h1, rfl⟩, fun A E s Q hg hu hk0 hQ => ?_⟩
    simp only [PyData.depth] at hu
    simp only [PyData.shown, PyData.shownKv_eq] at hQ
    exact call_dict_reprK h1 rfl rfl hsys hna (ReprEntriesK.of_two es.toList _ _
      (k1.more_le (fun b hb => List.mem_append_left _ hb) (PyData.depthAll_keys_le kvs)) (k2.more_le (fun b hb => List.mem_append_right _ hb) (PyData.depthAll_vals_le kvs))) hg (fun b _ => Clear.nil b) hu hk0 hQ (by rw [← PyData.shownKv_eq]; exact hz')
end
/-- repr(x), dicts in it or not -/
def reprD2 (ds : List D) : Option D := match ds with
  | [d] => if d.showable = true ∧ d.depth ≤ 60 ∧ d.shown.length ≤ sizeLine then some (.str d.shown) else none
  | _ => none
theorem cr_reprD2 {X : Cx} (hq : X.A.guards = some []) (hu : X.A.units + 64 < cLine) : CallR X (.builtin "repr") (tVn X.K X.w reprD2) := by
  intro pins s σ H xs us Q I r h
  obtain ⟨W, ds, sm, rl, h⟩ := h
  unfold reprD2 at h
  split at h
  · rename_i d
    simp only [RepL] at rl
    obtain ⟨v, _, rfl, rv, rfl⟩ := rl
    obtain ⟨u, rfl, rx⟩ := vals1 r
    split at h
    · rename_i c
      obtain ⟨c1, c3, c4⟩ := c
      by_cases hd : d.hasDict = true
      · obtain ⟨a, ea⟩ : ∃ a, v = .ref a := by
          cases d with
          | list ds => simp only [Rep] at rv; obtain ⟨a, _, e, _⟩ := rv; exact ⟨a, e⟩
          | tuple ds => simp only [Rep] at rv; obtain ⟨a, _, e, _⟩ := rv; exact ⟨a, e⟩
          | dict kvs => simp only [Rep] at rv; obtain ⟨a, _, _, e, _⟩ := rv; exact ⟨a, e⟩
          | _ => simp [PyData.hasDict] at hd
        subst ea
        cases rx
        obtain ⟨T, idr, S⟩ := showsBy_rep I sm rv rfl c1 c4
        have fin : ∀ h' t tk, (∀ b o, s.heap.get? b = some o → h'.get? b = some o) → EP X pins σ Q (.str d.shown t) { s with heap := h', toks := tk } := fun h' t tk hk =>
          ⟨.str d.shown, H, I.kept (h' := h') (t' := tk) hk, ⟨t, rfl⟩, h.flat sm rfl⟩
        exact call_repr_slot (by omega) (S.typeIs s fun _ _ e => e) S.slotRepr (S.call X.A.in1 X.xe s _ hq (by show X.A.units + 1 + d.depth < cLine; omega) (fun _ _ e => e) fun h' u tk hk => ⟨_, _, rfl, fin h' u tk hk⟩)
      · refine cr_reprD hq hu pins s σ H _ _ Q I r ⟨W, [d], sm, RepL.cons rv RepL.nil, ?_⟩
        unfold reprD
        simp only
        rw [if_pos ⟨c1, by simpa using hd, c3, c4⟩]
        exact h
    · exact h.elim
  · exact h.elim
end DP
set_option Elab.async false
set_option linter.all false
set_option maxRecDepth 100000
/-! DP, part 42: xs.pop(), xs.insert(i, y); while, with turns told. -/
namespace DP
open PySem PySem.Spec PyProof.Rows L2

def opPop (ds as : List D) : Option (D × List D) := match as with
  | [] => (ds[ds.length - 1]?).map fun d => (d, ds.dropLast)
  | _ => none
def opIns (ds as : List D) : Option (D × List D) := match as with
  | [.int i, d] => if 0 ≤ i ∧ i < 2 ^ 63 ∧ ds.length < sizeLine then some (.none, ds.take i.toNat ++ [d] ++ ds.drop i.toNat) else none
  | _ => none
section
variable {X : Cx} {Wx : WX}
theorem RepL.dropLast {K : PySem.W.Frag} {w : World} {W : Hp} {ds : List D} {vs : List V} (h : RepL K w W ds vs) : RepL K w W ds.dropLast vs.dropLast := by
  rw [List.dropLast_eq_take, List.dropLast_eq_take, h.len]
  exact h.take _
theorem mut_pop : MutR X rPop opPop := by
  intro W H p ds as vs us z ds' Q s n h r ra e q
  unfold opPop at e
  split at e
  · obtain ⟨d, e1, e2⟩ := Option.map_eq_some_iff.mp e
    cases e2
    simp only [RepL] at ra
    subst ra
    obtain ⟨v, g1, g2⟩ := r.at e1
    exact ⟨p, vs, v, rfl, rfl, h, by rw [r.len]; exact g1, q _ _ r.dropLast g2⟩
  · cases e
theorem mut_ins : MutR X (fun x vs H Q => ∃ (l : Addr) (xs : List V) (i : Int) (y : V), x = .ref l ∧ vs = [.int i, y] ∧ H l = some (.lst xs) ∧ xs.length < sizeLine ∧ 0 ≤ i ∧ i < 2 ^ 63 ∧
    Q .non (upd H l (.lst (xs.take i.toNat ++ [y] ++ xs.drop i.toNat)))) opIns := by
  intro W H p ds as vs us z ds' Q s n h r ra e q
  unfold opIns at e
  split at e
  · split at e
    · rename_i c
      cases e
      simp only [RepL, Rep] at ra
      obtain ⟨_, _, rfl, rfl, y, _, rfl, ry, rfl⟩ := ra
      exact ⟨p, vs, _, y, rfl, rfl, h, by rw [r.len]; exact c.2.2, c.1, c.2.1, q _ _ (((r.take _).append (RepL.cons ry RepL.nil)).append (r.drop _)) rfl⟩
    · cases e
  · cases e
theorem ex_mutL0 {i : Nat} {x name : Str} {id : String} {p apos cpos : Pos} {r : V → List V → Hp → VK → Prop} {op : List D → List D → Option (D × List D)} (slot : Slot "list" name id) (hty : typeOf (.builtin id) = pure (.type "method_descriptor")) (hm : MtR X id r) (mu : MutR X r op)
    (h : PE X (.Name x p) (tVar i)) (hbase : attributeBase (.Name x p) name X.env (eval (.Name x p) X.env) = eval (.Name x p) X.env := by rfl) (hline : (apos.endLine == cpos.line) = true := by rfl) :
    EX X Wx (.Call (.Attribute (.Name x p) name apos) [] [] cpos) (xMutL i op aNil) := by
  refine PE.wk (pe_bm0 PySem.F.plainAttrs_list slot hty hm h hbase hline) ?_
  rintro σ H Q ⟨ρ, W, env, A, S, h⟩
  unfold xMutL at h
  split at h
  · rename_i t ds e1
    obtain ⟨v, l, h1, h2, h3⟩ := S.at e1
    obtain ⟨p, rfl, rfl, q3, ⟨vs, q4, rv⟩, _⟩ := h3
    refine ⟨.ref p, h1, .inl ⟨rfl, vs, .of q4⟩, ?_⟩
    simp only [aNil, Out.bind_ok] at h
    rw [e1] at h
    simp only at h
    split at h
    · rename_i z ds' eo
      refine mu W H p ds [] vs [] z ds' Q S.sub q3 q4 rv RepL.nil eo fun vs' v rv' rz => ?_
      obtain ⟨S2, F2⟩ := S.mut (c' := .list ds') (o := .lst vs') e1 h1 ⟨vs', upd_same, rv'⟩
      exact h W _ A v S2 F2 rz
    · exact h.elim
  · exact h.elim
end
end DP
set_option Elab.async false
set_option linter.all false
set_option maxRecDepth 100000
/-! DP, part 43: defs that change a container handed in as the last argument; defs that call themselves. -/
namespace DP
open PySem PySem.Spec PyProof.Rows L2

/-- what a def reckons of its arguments and the container: its value, the container behind it -/
abbrev FIO := List D → D → Out (D × D)
def onIO (K : PySem.W.Frag) (w : World) (W H : Hp) (p : Addr) (o : Out (D × D)) (Q : VK) : Prop := match o with
  | .ok (d, c') => ∀ W' H' v, Fr W H (· = p) W' H' (· = p) → Same W' H' → W' p = none → Own K w W' H' c' p → Rep K w W' d v → Q v H'
  | _ => False
def spIO (K : PySem.W.Frag) (w : World) (n : Nat) (F : FIO) : Sp := fun vs H Q _ => ∃ W ds c p vs', vs = vs' ++ [V.ref p] ∧ Same W H ∧ RepL K w W ds vs' ∧ ds.length = n ∧ W p = none ∧ Own K w W H c p ∧ onIO K w W H p (F ds c) Q
def endIO (n : Nat) (d : D) (e : Ev) : Out (D × D) := match e[n]? with
  | some (.ow (some 0) c') => .ok (d, c')
  | _ => .bad
/-- a body of N slots run at n arguments and the container -/
def runIO (N n : Nat) (B : SF) : FIO := fun ds c => match B (ds.map .fz ++ .ow (some 0) c :: List.replicate (N - (n + 1)) .no) with
  | .ok (.rt d, e) => endIO n d e
  | .ok (.nx, e) => endIO n .none e
  | _ => .bad
structure DefIO (P : Program) (w : World) (K : PySem.W.Frag) (mg : Str → Option Value) (base : Heap) (k : Nat) (x : Str) (ps : List Str) (n : Nat) (F : FIO) : Prop where
  ex : ∃ f fd, FnG P w K mg base k f fd ps (spIO K w n F) ∧ mg x = some (.ref f) ∧ PySem.W.keepIn K (.ref f) = true ∧ Binds K fd ps []
section
variable {K : PySem.W.Frag} {w : World}
theorem SR.startIO {W H : Hp} {ds : List D} {c : D} {p : Addr} {vs : List V} {N : List Str} (s : Same W H) (r : RepL K w W ds vs) (n : W p = none) (o : Own K w W H c p) (hN : ds.length + 1 ≤ N.length) :
    SR K w (fun _ => p) W H (ds.map .fz ++ .ow (some 0) c :: List.replicate (N.length - (ds.length + 1)) .no) (L2.start N (vs ++ [.ref p])) (List.replicate ds.length [] ++ [p] :: List.replicate (N.length - (ds.length + 1)) []) := by
  have hl := r.len
  have hst : (L2.start N (vs ++ [V.ref p])).length = N.length := by
    unfold L2.start
    simp only [List.length_append, List.length_map, List.length_replicate, List.length_cons, List.length_nil]
    omega
  refine ⟨s, ?_, ?_, fun i sl v l h1 h2 h3 => ?_, fun i j l m q h1 h2 h3 h4 => ?_⟩
  · rw [hst]
    simp only [List.length_append, List.length_map, List.length_replicate, List.length_cons]
    omega
  · rw [hst]
    simp only [List.length_append, List.length_replicate, List.length_cons]
    omega
  · unfold L2.start at h2
    rw [List.map_append, List.append_assoc] at h2
    by_cases hi : i < ds.length
    · rw [List.getElem?_append_left (by simpa using hi), List.getElem?_map, List.getElem?_eq_getElem hi] at h1
      cases h1
      rw [List.getElem?_append_left (by simp; omega), List.getElem?_map] at h2
      rw [List.getElem?_append_left (by simpa using hi), List.getElem?_replicate, if_pos hi] at h3
      cases h3
      obtain ⟨x, hx, rx⟩ := r.at (List.getElem?_eq_getElem hi)
      rw [hx] at h2
      cases h2
      exact ⟨rfl, x, rfl, rx⟩
    · rw [List.getElem?_append_right (by simp; omega)] at h1 h2 h3
      simp only [List.length_map, List.length_replicate] at h1 h2 h3
      rw [hl] at h2
      by_cases he : i - ds.length = 0
      · rw [he] at h1 h2 h3
        cases h1
        cases h2
        cases h3
        exact ⟨p, rfl, rfl, n, o, fun _ _ => rfl⟩
      · obtain ⟨j, hj⟩ : ∃ j, i - ds.length = j + 1 := ⟨i - ds.length - 1, by omega⟩
        rw [hj] at h1 h2 h3
        rw [List.getElem?_cons_succ, List.getElem?_replicate] at h1 h3
        split at h1 <;> cases h1
        split at h3 <;> cases h3
        all_goals exact rfl
  · have at_ : ∀ {i : Nat} {l : List Addr}, (List.replicate ds.length [] ++ [p] :: List.replicate (N.length - (ds.length + 1)) [])[i]? = some l → q ∈ l → i = ds.length := by
      intro i l h hq
      by_cases hi : i < ds.length
      · rw [List.getElem?_append_left (by simpa using hi), List.getElem?_replicate, if_pos hi] at h
        cases h; cases hq
      · rw [List.getElem?_append_right (by simp; omega)] at h
        simp only [List.length_replicate] at h
        by_cases he : i - ds.length = 0
        · omega
        · obtain ⟨j, hj⟩ : ∃ j, i - ds.length = j + 1 := ⟨i - ds.length - 1, by omega⟩
          rw [hj, List.getElem?_cons_succ, List.getElem?_replicate] at h
          split at h <;> cases h
          cases hq
    rw [at_ h1 h3, at_ h2 h4]
theorem own_io {n m : Nat} {p q : Addr} : ownd (List.replicate n [] ++ [p] :: List.replicate m []) q ↔ q = p := by
  constructor
  · rintro ⟨i, l, h, hq⟩
    by_cases hi : i < n
    · rw [List.getElem?_append_left (by simpa using hi), List.getElem?_replicate, if_pos hi] at h
      cases h; cases hq
    · rw [List.getElem?_append_right (by simp; omega)] at h
      simp only [List.length_replicate] at h
      by_cases he : i - n = 0
      · rw [he] at h
        cases h
        simpa using hq
      · obtain ⟨j, hj⟩ : ∃ j, i - n = j + 1 := ⟨i - n - 1, by omega⟩
        rw [hj, List.getElem?_cons_succ, List.getElem?_replicate] at h
        split at h <;> cases h
        cases hq
  · rintro rfl
    exact ⟨n, [q], by rw [List.getElem?_append_right (by simp)]; simp, by simp⟩
theorem Fr.io {W H W' H' : Hp} {n m : Nat} {p : Addr} {A' : List (List Addr)} (F : Fr W H (ownd (List.replicate n [] ++ [p] :: List.replicate m [])) W' H' (ownd A')) : Fr W H (· = p) W' H' (· = p) :=
  ⟨F.ext, fun q o h hq => F.keep q o h fun z => hq (own_io.mp z), fun q h1 h2 => (F.new q h1 h2).imp own_io.mp id, fun q h => .inl h⟩
end
section
variable {P : Program} {w : World} {K : PySem.W.Frag} {mg : Str → Option Value} {base : Heap}
theorem fnG_io {x qual : Str} {st : Stmt} {f : Addr} {fd : FuncData} {N ps : List Str} {k n : Nat} {B : SF} (Fn : Fun K x qual st f fd) (S : FnScope N ps (defScope st)) (hp : ps.length = n + 1) (hN : n + 1 ≤ N.length)
    (body : ∀ (cdv : Value) (A : Around) (outer : List Env) (s : Shared) (H : Hp) (E : XK), Room k (A.deeper (envOfC qual (defScope st) s.heap.objs.size f cdv)) → A.guards = some [] →
      EB (cxOf (L2.CX P w) P w K mg base N qual (defScope st) f cdv A outer s H E) (fun cls d _ H => E cls d H) (defBody st) B) : FnG P w K mg base (k + 1) f fd ps (spIO K w n (runIO N.length n B)) := by
  refine fnG_of Fn S (fun vs H Q E h => ?_) fun cdv A outer s H vs Q E hr hg h => ⟨_, body cdv A outer s H E hr hg, ?_⟩
  · obtain ⟨W, ds, c, p, vs', rfl, _, r, hl, _⟩ := h
    rw [List.length_append, r.len, hl, hp]
    rfl
  · obtain ⟨W, ds, c, p, vs', rfl, sm, r, hl, hn, ow, h⟩ := h
    have S0 := SR.startIO (N := N) sm r hn ow (by omega)
    refine ⟨fun _ => p, W, _, _, S0, ?_⟩
    unfold runIO at h
    subst hl
    have fin : ∀ {d : D} {e : Ev} {W' H' : Hp} {A' : List (List Addr)} {σ' : L2.St}, onIO K w W H p (endIO ds.length d e) Q → SR K w (fun _ => p) W' H' e σ' A' → Fr W H (ownd (List.replicate ds.length [] ++ [p] :: List.replicate (N.length - (ds.length + 1)) [])) W' H' (ownd A') → ∀ v, Rep K w W' d v → Q v H' := by
      intro d e W' H' A' σ' h S' F' v rv
      unfold endIO at h
      split at h
      · rename_i c' e0
        obtain ⟨v0, l0, g1, g2, p', rfl, rfl, q3, q4, q5⟩ := S'.at e0
        have ep : p = p' := q5 0 rfl
        subst ep
        exact h W' H' v F'.io S'.sub q3 q4 rv
      · exact h.elim
    cases eb : B (ds.map .fz ++ .ow (some 0) c :: List.replicate (N.length - (ds.length + 1)) .no) with
    | bad => rw [eb] at h; exact h.elim
    | exc c d e => rw [eb] at h; exact h.elim
    | ok q =>
      obtain ⟨fl, env'⟩ := q
      rw [eb] at h
      cases fl with
      | nx => exact fun W' H' A' σ' S' F' => fin h S' F' _ rfl
      | rt d => exact fun W' H' A' σ' S' F' v rv => fin h S' F' v rv
      | bk => exact h.elim
      | ct => exact h.elim
/-- no turns left: nothing is promised -/
theorem fnG_bad {f : Addr} {fd : FuncData} {ps : List Str} {k n : Nat} : FnG P w K mg base k f fd ps (spIO K w n (fun _ _ => .bad)) :=
  ⟨fun vs H Q E ⟨_, _, _, _, _, _, _, _, _, _, _, h⟩ => h.elim, fun A outer s H args us vs Q E _ _ _ _ _ ⟨_, _, _, _, _, _, _, _, _, _, _, h⟩ => h.elim⟩
theorem fnG_badF {f : Addr} {fd : FuncData} {ps : List Str} {k : Nat} {mg' : Str → Option Value} : FnG P w K mg base k f fd ps (spF K w mg' ps.length (fun _ => .bad)) :=
  ⟨fun vs H Q E ⟨_, _, _, _, _, h⟩ => h.elim, fun A outer s H args us vs Q E _ _ _ _ _ ⟨_, _, _, _, _, h⟩ => h.elim⟩
end

/-! ### the arguments, and the container behind them -/
def tLO (X : Cx) (Wx : WX) (i : Nat) (g : AF) : TA := fun σ H Q => ∃ u, σ[i]? = some (some u) ∧ tG X.K X.w X.mg Wx (fun W ds vs => ∃ vs', vs = vs' ++ [u] ∧ RepL X.K X.w W ds vs') g σ H Q
/-- .. a slot's -/
abbrev EAO (X : Cx) (Wx : WX) (es : List Expr) (i : Nat) (g : AF) : Prop := PA X es (tLO X Wx i g)
/-- .. a new one -/
def tLN (X : Cx) (g : AF) (fN : XF) : TA := fun σ H Q => ∃ ρ W env A, SR X.K X.w ρ W H env σ A ∧ ∃ ds c env', ((g env).bind fun r => (fN r.2).bind fun q => .ok ((r.1, q.1), q.2)) = .ok ((ds, c), env') ∧
  ∀ W' H' A' vs p, SR X.K X.w ρ W' H' env' σ A' → Fr W H (ownd A) W' H' (ownd A') → RepL X.K X.w W' ds vs → W' p = none → Own X.K X.w W' H' c p → ¬ ownd A' p → (ownd A p ∨ H p = none) → Q (vs ++ [.ref p]) H'
abbrev EAN (X : Cx) (es : List Expr) (g : AF) (fN : XF) : Prop := PA X es (tLN X g fN)
section
variable {X : Cx} {Wx : WX} {a : Expr} {es : List Expr} {f fN : XF} {g : AF} {i : Nat} {x : Str} {p pos : Pos}
theorem eao_last (h : PE X (.Name x p) (tVar i)) (hs : starEach [.Name x p] X.env = (false, eval (.Name x p) X.env) :: starEach [] X.env := by rfl) : EAO X Wx [.Name x p] i aNil := by
  refine PA.wk (pa_cons h pa_nil hs) ?_
  rintro σ H Q ⟨u, hu, ρ, W, env, A, S, h⟩
  exact ⟨u, hu, h W H A [u] S (Fr.refl _ _ _) ⟨[], rfl, RepL.nil⟩⟩
theorem eao_cons (ha : EX X Wx a f) (hr : EAO X Wx es i g) (hs : starEach (a :: es) X.env = (false, eval a X.env) :: starEach es X.env := by rfl) : EAO X Wx (a :: es) i (aCons f g) := by
  refine PA.wk (pa_cons ha hr hs) ?_
  rintro σ H Q ⟨u, hu, ρ, W, env, A, S, h⟩
  refine tG_then S h fun d W1 H1 env1 A1 v S1 F1 r1 h1 => ?_
  refine ⟨u, hu, tG_then S1 h1 fun ds W2 H2 env2 A2 vs S2 F2 r2 h2 => ?_⟩
  obtain ⟨vs', rfl, r2⟩ := r2
  exact h2 W2 H2 A2 _ S2 (Fr.refl _ _ _) ⟨v :: vs', rfl, RepL.cons (Rep.mono F2.ext d v r1) r2⟩
theorem ean_last (h : EN X Wx0 a fN) (hs : starEach [a] X.env = (false, eval a X.env) :: starEach [] X.env := by rfl) : EAN X [a] aNil fN := by
  refine PA.wk (pa_cons h pa_nil hs) ?_
  rintro σ H Q ⟨ρ, W, env, A, S, ds, c, env', e, h⟩
  refine ⟨ρ, W, env, A, S, ?_⟩
  simp only [aNil, Out.bind_ok] at e
  cases ef : fN env with
  | bad => rw [ef] at e; cases e
  | exc c d e' => rw [ef] at e; cases e
  | ok q =>
    obtain ⟨c1, env1⟩ := q
    rw [ef] at e
    cases e
    intro W' H' A' q S' F' n o k z
    exact h W' H' A' [] q S' F' RepL.nil n o k z
theorem ean_cons (ha : EX X Wx0 a f) (hr : EAN X es g fN) (hs : starEach (a :: es) X.env = (false, eval a X.env) :: starEach es X.env := by rfl) : EAN X (a :: es) (aCons f g) fN := by
  refine PA.wk (pa_cons ha hr hs) ?_
  rintro σ H Q ⟨ρ, W, env, A, S, ds, c, env', e, h⟩
  have e2 : ((f env).bind fun r => ((g r.2).bind fun q => (fN q.2).bind fun z => Out.ok ((r.1 :: q.1, z.1), z.2))) = .ok ((ds, c), env') := by
    rw [← e]
    unfold aCons
    cases f env with
    | bad => rfl
    | exc _ _ _ => rfl
    | ok r =>
      simp only [Out.bind_ok]
      cases g r.2 <;> rfl
  refine step0 S e2 fun d W1 H1 env1 A1 v S1 F1 r1 h1 => ?_
  cases eg : g env1 with
  | bad => rw [eg] at h1; cases h1
  | exc _ _ _ => rw [eg] at h1; cases h1
  | ok q =>
    obtain ⟨ds', env2⟩ := q
    simp only [eg, Out.bind_ok] at h1
    cases ef : fN env2 with
    | bad => rw [ef] at h1; cases h1
    | exc _ _ _ => rw [ef] at h1; cases h1
    | ok z =>
      obtain ⟨c', env3⟩ := z
      simp only [ef, Out.bind_ok] at h1
      cases h1
      refine ⟨ρ, W1, env1, A1, S1, ds', _, _, (by simp only [eg, ef, Out.bind_ok]; rfl), fun W' H' A' vs p S' F' r2 n o k z => ?_⟩
      refine h W' H' A' (v :: vs) p S' (F1.trans F') (RepL.cons (Rep.mono F'.ext d v r1) r2) n o k ?_
      rcases z with z | z
      · exact F1.own p z
      · cases q : H p with
        | none => exact .inr rfl
        | some u =>
          by_cases hp : ownd A p
          · exact .inl hp
          · have := F1.keep p u q hp
            rw [z] at this; cases this
end
def xCallIO (n : Nat) (F : FIO) (i : Nat) (g : AF) : XF := fun env => match env[i]? with
  | some (.ow _ _) => (g env).bind fun r => match r.2[i]? with
    | some (.ow t c) => if r.1.length = n then (match F r.1 c with
      | .ok (d, c') => .ok (d, r.2.set i (.ow t c'))
      | _ => .bad) else .bad
    | _ => .bad
  | _ => .bad
def xCallION (n : Nat) (F : FIO) (g : AF) (fN : XF) : XF := fun env => match ((g env).bind fun r => (fN r.2).bind fun q => Out.ok ((r.1, q.1), q.2)) with
  | .ok (r, e) => if r.1.length = n then (match F r.1 r.2 with
    | .ok (d, _) => .ok (d, e)
    | _ => .bad) else .bad
  | _ => .bad
theorem SR.io {K : PySem.W.Frag} {w : World} {ρ : Nat → Addr} {W H W' H' : Hp} {env : Ev} {σ : L2.St} {A : List (List Addr)} (S : SR K w ρ W H env σ A) {i : Nat} {t : Option Nat} {c c' : D} {p : Addr} (hi : env[i]? = some (.ow t c)) (hp : σ[i]? = some (some (.ref p)))
    (F : Fr W H (· = p) W' H' (· = p)) (sub : Same W' H') (hn : W' p = none) (ho : Own K w W' H' c' p) : SR K w ρ W' H' (env.set i (.ow t c')) σ A ∧ Fr W H (ownd A) W' H' (ownd A) := by
  obtain ⟨v, l, h1, h2, h3⟩ := S.at hi
  obtain ⟨p', rfl, e3, q1, q2, q3⟩ := h3
  rw [hp] at h1
  have ep : p' = p := by cases h1; cases e3; rfl
  subst ep
  refine ⟨⟨sub, by simp [S.le], S.la, fun j s v l j1 j2 j3 => ?_, S.inj⟩, F.ext, fun b u hb hnb => ?_, fun b h1 h4 => ?_, fun b hb => .inl hb⟩
  · rcases at_set j1 with ⟨e1, e2⟩ | ⟨e1, e2⟩
    · subst e1 e2
      rw [hp] at j2
      cases j2
      rw [h2] at j3
      cases j3
      exact ⟨p', rfl, rfl, hn, ho, q3⟩
    · refine (S.slot j s v l e2 j2 j3).keep F.ext fun b hb => ?_
      have hbp : b ≠ p' := fun z => e1 (S.inj j i l [p'] b j3 h2 hb (by simp [z]))
      obtain ⟨k1, u, k2⟩ := S.own ⟨j, l, j3, hb⟩
      refine ⟨by rw [k2]; exact F.keep b u k2 hbp, ?_⟩
      cases z : W' b with
      | none => rfl
      | some y =>
        rcases F.new b (by rw [z]; exact fun z => nomatch z) k1 with q | q
        · exact absurd q hbp
        · rw [k2] at q; cases q
  · exact F.keep b u hb fun z => hnb ⟨i, [p'], h2, by simp [z]⟩
  · rcases F.new b h1 h4 with q | q
    · exact .inl ⟨i, [p'], h2, by simp [q]⟩
    · exact .inr q
section
variable {X : Cx} {Wx : WX} {k j n i : Nat} {ps : List Str} {F : FIO} {x : Str} {p pos : Pos} {e : Expr} {es : List Expr} {g : AF} {fN : XF}
theorem ex_callIO (d : DefIO X.prog X.w X.K X.mg X.base k x ps n F) (hr : Room j X.A) (hk : k ≤ j) (hq : X.A.guards = some []) (hg : Gl X x) (tk : Takes X Wx) (ha : EAO X Wx (e :: es) i g)
    (hdb : (x == ("__debug__" : Str)) = false := by decide) (he : starEach (e :: es) X.env = (false, eval e X.env) :: starEach es X.env := by rfl) (hpl : (backTo pos (starEach es X.env)).any (·.1) = false := by rfl) :
    EX X Wx (.Call (.Name x p) (e :: es) [] pos) (xCallIO n F i g) := by
  obtain ⟨f, fd, G, h1, h2, h3⟩ := d.ex
  refine PE.wk (pe_callG (E := fun σ cls d H => Wx cls d σ H) G (hr.mono hk) hq hg h1 h2 h3 (fun σ => passAt tk σ) ha hdb he hpl) ?_
  rintro σ H Q ⟨ρ, W, env, A, S, h⟩
  unfold xCallIO at h
  split at h
  · rename_i t0 c0 e0
    obtain ⟨v0, l0, f1, f2, p, rfl, rfl, _⟩ := S.at e0
    refine ⟨.ref p, f1, tG_then S h fun ds W1 H1 env1 A1 vs S1 F1 r1 h4 => ?_⟩
    obtain ⟨vs', rfl, r1⟩ := r1
    simp only at h4
    split at h4
    · rename_i t c e1
      split at h4
      · rename_i hl
        obtain ⟨v, l, g1, g2, p', rfl, rfl, g3, g4, g5⟩ := S1.at e1
        rw [f1] at g1
        cases g1
        rw [List.append_nil]
        refine ⟨W1, ds, c, p, vs', rfl, S1.sub, r1, hl, g3, g4, ?_⟩
        cases eF : F ds c with
        | bad => rw [eF] at h4; exact h4.elim
        | exc _ _ _ => rw [eF] at h4; exact h4.elim
        | ok q =>
          obtain ⟨d, c'⟩ := q
          rw [eF] at h4
          intro W' H' v F' s' n' o' rv
          obtain ⟨S2, F2⟩ := S1.io e1 f1 F' s' n' o'
          exact h4 W' H' A1 v S2 F2 rv
      · exact h4.elim
    · exact h4.elim
  · exact h.elim
theorem ex_callION (d : DefIO X.prog X.w X.K X.mg X.base k x ps n F) (hr : Room j X.A) (hk : k ≤ j) (hq : X.A.guards = some []) (hg : Gl X x) (tk : Takes X Wx) (ha : EAN X (e :: es) g fN)
    (hdb : (x == ("__debug__" : Str)) = false := by decide) (he : starEach (e :: es) X.env = (false, eval e X.env) :: starEach es X.env := by rfl) (hpl : (backTo pos (starEach es X.env)).any (·.1) = false := by rfl) :
    EX X Wx (.Call (.Name x p) (e :: es) [] pos) (xCallION n F g fN) := by
  obtain ⟨f, fd, G, h1, h2, h3⟩ := d.ex
  refine PE.wk (pe_callG (E := fun σ cls d H => Wx cls d σ H) G (hr.mono hk) hq hg h1 h2 h3 (fun σ => passAt tk σ) ha hdb he hpl) ?_
  rintro σ H Q ⟨ρ, W, env, A, S, h⟩
  unfold xCallION at h
  split at h
  · rename_i r env' e0
    obtain ⟨ds, c⟩ := r
    split at h
    · rename_i hl
      refine ⟨ρ, W, env, A, S, ds, c, env', e0, fun W1 H1 A1 vs p S1 F1 r1 n1 o1 k1 z1 => ?_⟩
      show spIO X.K X.w n F ((vs ++ [V.ref p]) ++ []) H1 Q _
      rw [List.append_nil]
      refine ⟨W1, ds, c, p, vs, rfl, S1.sub, r1, hl, n1, o1, ?_⟩
      simp only at h
      cases eF : F ds c with
      | bad => rw [eF] at h; exact h.elim
      | exc _ _ _ => rw [eF] at h; exact h.elim
      | ok q =>
        obtain ⟨d, c'⟩ := q
        rw [eF] at h
        intro W' H' v F' s' n' o' rv
        have S2 : SR X.K X.w ρ W' H' env' σ A1 := S1.keep F'.ext s' fun b hb => by
          have hbp : b ≠ p := fun z => k1 (z ▸ hb)
          obtain ⟨q1, u, q2⟩ := S1.own hb
          refine ⟨by rw [q2]; exact F'.keep b u q2 hbp, ?_⟩
          cases z : W' b with
          | none => rfl
          | some y =>
            rcases F'.new b (by rw [z]; exact fun z => nomatch z) q1 with q | q
            · exact absurd q hbp
            · rw [q2] at q; cases q
        refine h W' H' A1 v S2 ⟨F1.ext.trans F'.ext, fun b u hb nb => ?_, fun b q1 q2 => ?_, F1.own⟩ rv
        · refine F'.keep b u (F1.keep b u hb nb) fun z => ?_
          rcases z1 with q | q
          · exact nb (z ▸ q)
          · rw [z, q] at hb; cases hb
        · cases z : W1 b with
          | some y => exact F1.new b (by rw [z]; exact fun z => nomatch z) q2
          | none =>
            rcases F'.new b q1 z with q | q
            · rw [q] at q1
              exact absurd n' q1
            · cases z2 : H b with
              | none => exact .inr rfl
              | some u =>
                by_cases hb : ownd A b
                · exact .inl hb
                · have := F1.keep b u z2 hb
                  rw [q] at this; cases this
    · exact h.elim
  · exact h.elim
end
end DP
set_option Elab.async false
set_option linter.all false
set_option maxRecDepth 100000
/-! DP, part 44: plain laws of the words for dicts. -/
namespace DP
open PySem L2
section
variable {env : Ev} {f g : XF} {o : D → D → Option D} {i n : Nat} {k : KF} {c : TF} {b : SF} {l : AF} {fN : XF} {F : FIO}
@[simp] theorem iIt_ap : iIt f env = (f env).bind fun r => liftO (itD r.1) r.2 := rfl
@[simp] theorem itD_l {ds : List D} : itD (.list ds) = some ds := rfl
@[simp] theorem itD_t {ds : List D} : itD (.tuple ds) = some ds := rfl
@[simp] theorem itD_d {kvs : List (D × D)} : itD (.dict kvs) = some (kvs.map (·.1)) := rfl
@[simp] theorem x2B_ap : x2B o f i env = (f env).bind fun r => match slotC r.2 i with
  | some c => liftO (o r.1 c) r.2
  | none => .bad := rfl
@[simp] theorem xLenB_ap {c : D} (h : slotC env i = some c) : xLenB i env = liftO (lenD [c]) env := by unfold xLenB; rw [h]
@[simp] theorem xIxB_ap {c : D} (h : slotC env i = some c) : xIxB i g env = (g env).bind fun r => match slotC r.2 i with
    | some c => liftO (ixD c r.1) r.2
    | none => .bad := by unfold xIxB; rw [h]; try rfl
@[simp] theorem xDict_ap : xDict k env = (k env).bind fun r => if pairsOk r.1 = true then .ok (.dict (dMerge [] r.1), r.2) else .bad := rfl
@[simp] theorem kNil_ap : kNil env = .ok ([], env) := rfl
@[simp] theorem kCons_ap : kCons f g k env = (f env).bind fun a => (g a.2).bind fun v => (k v.2).bind fun q => .ok ((a.1, v.1) :: q.1, q.2) := rfl
theorem setK_ok {fv fk : XF} {e1 e2 : Ev} {v kk : D} {t0 t : Option Nat} {kvs0 kvs : List (D × D)} (h1 : fv env = .ok (v, e1)) (h2 : e1[i]? = some (.ow t0 (.dict kvs0))) (h3 : fk e1 = .ok (kk, e2)) (h4 : e2[i]? = some (.ow t (.dict kvs))) (h5 : keyOk kk = true) (h6 : kvs.length < sizeLine) :
    sSetK i fv fk env = .ok (.nx, e2.set i (.ow t (.dict (dPut kvs kk v)))) := by
  unfold sSetK
  rw [h1]
  simp only [Out.bind_ok, h2, h3, h4]
  rw [if_pos ⟨h5, h6⟩]
theorem wh_no {m : Nat} {e1 : Ev} (h : c env = .ok (false, e1)) : whL c b (m + 1) env = .ok (.nx, e1) := by
  unfold whL
  rw [h]
  rfl
theorem wh_yes {m : Nat} {e1 e2 : Ev} (h : c env = .ok (true, e1)) (h2 : b e1 = .ok (.nx, e2)) : whL c b (m + 1) env = whL c b m e2 := by
  conv => lhs; unfold whL
  rw [h]
  simp only [Out.bind_ok, if_true, h2]
theorem callIO_ok {e1 : Ev} {ds : List D} {t0 t : Option Nat} {c0 cc c' d : D} (h0 : env[i]? = some (.ow t0 c0)) (h1 : l env = .ok (ds, e1)) (h2 : e1[i]? = some (.ow t cc)) (h3 : ds.length = n) (h4 : F ds cc = .ok (d, c')) : xCallIO n F i l env = .ok (d, e1.set i (.ow t c')) := by
  unfold xCallIO
  rw [h0]
  simp only [h1, Out.bind_ok, h2]
  rw [if_pos h3, h4]
theorem callION_ok {e1 e2 : Ev} {ds : List D} {cc c' d : D} (h1 : l env = .ok (ds, e1)) (h2 : fN e1 = .ok (cc, e2)) (h3 : ds.length = n) (h4 : F ds cc = .ok (d, c')) : xCallION n F l fN env = .ok (d, e2) := by
  unfold xCallION
  rw [h1]
  simp only [Out.bind_ok, h2]
  rw [if_pos h3, h4]
end
@[simp] theorem eq2_int (i j : Int) : eqD2 (.int i) (.int j) = some (.bool (decide (i = j))) := eq_int i j
@[simp] theorem ne2_int (i j : Int) : neD2 (.int i) (.int j) = some (.bool (decide (i ≠ j))) := ne_int i j
@[simp] theorem eq2_str (x y : Str) : eqD2 (.str x) (.str y) = some (.bool (decide (x = y))) := eq_strD x y
@[simp] theorem ne2_str (x y : Str) : neD2 (.str x) (.str y) = some (.bool (decide (x ≠ y))) := ne_strD x y
@[simp] theorem ne2_bool (x y : Bool) : neD2 (.bool x) (.bool y) = some (.bool (decide (x ≠ y))) := by cases x <;> cases y <;> rfl
@[simp] theorem ne2_noneI (j : Int) : neD2 .none (.int j) = some (.bool true) := rfl

/-! ### lists of ints -/
def iL (xs : List Int) : D := .list (xs.map .int)
@[simp] theorem iL_it (xs : List Int) : itD (iL xs) = some (xs.map .int) := rfl
@[simp] theorem iL_len (xs : List Int) : lenD [iL xs] = some (.int xs.length) := by simp [iL]
theorem iL_plain (xs : List Int) : (iL xs).plain = true := by simp [iL, PyData.plain, plain_ints]
theorem iL_depth (xs : List Int) : (iL xs).depth = 1 := by simp [iL, PyData.depth, depth_ints]
theorem iL_eqv (a b : List Int) : (iL a).eqv (iL b) = decide (a = b) := by simp only [iL, PyData.eqv]; exact eqv_ints a b
theorem iL_okD (a b : List Int) : okD (iL a) (iL b) = true := by unfold okD; rw [iL_depth, iL_depth]; decide
@[simp] theorem iL_eq (a b : List Int) : eqD2 (iL a) (iL b) = some (.bool (decide (a = b))) := by
  show eqD (iL a) (iL b) = _
  unfold eqD
  rw [iL_plain, iL_plain, iL_okD, iL_eqv]
  rfl
@[simp] theorem iL_ne (a b : List Int) : neD2 (iL a) (iL b) = some (.bool (decide (a ≠ b))) := by
  show neD (iL a) (iL b) = _
  unfold neD
  rw [iL_plain, iL_plain, iL_okD, iL_eqv]
  by_cases h : a = b <;> simp [h]
theorem iL_nil : iL [] = .list [] := rfl
@[simp] theorem iL_ne0 (a : List Int) : neD2 (iL a) (.list []) = some (.bool (decide (a ≠ []))) := iL_ne a []
theorem any_int (x : Int) : ∀ xs : List Int, (xs.map PyData.int).any (fun z => z.eqv (.int x)) = decide (x ∈ xs)
  | [] => rfl
  | y :: xs => by
    rw [List.map_cons, List.any_cons, any_int x xs]
    simp only [PyData.eqv]
    rw [Bool.eq_iff_iff]
    simp only [Bool.or_eq_true, beq_iff_eq, decide_eq_true_eq, List.mem_cons]
    exact or_congr eq_comm Iff.rfl
theorem inOk_int (x : Int) (xs : List Int) : inOk2 (.int x) (iL xs) = true := by
  show inOk (.int x) (.list _) = true
  simp [inOk, PyData.plain, plain_ints, depth_ints, PyData.depth]
@[simp] theorem in_iL (x : Int) (xs : List Int) : inD2 (.int x) (iL xs) = some (.bool (decide (x ∈ xs))) := by
  unfold inD2
  rw [if_pos (inOk_int x xs)]
  show some (PyData.bool ((xs.map PyData.int).any _)) = _
  rw [any_int]
@[simp] theorem nin_iL (x : Int) (xs : List Int) : ninD2 (.int x) (iL xs) = some (.bool (decide (x ∉ xs))) := by
  unfold ninD2
  rw [if_pos (inOk_int x xs)]
  show some (PyData.bool (!(xs.map PyData.int).any _)) = _
  rw [any_int]
  by_cases h : x ∈ xs <;> simp [h]
/-- a tuple of ints -/
@[simp] theorem in_tupI (x : Int) (xs : List Int) : inD2 (.int x) (tupI xs) = some (.bool (decide (x ∈ xs))) := by
  unfold inD2
  rw [if_pos (by show inOk (.int x) (.tuple _) = true; simp [inOk, PyData.plain, plain_ints, depth_ints, PyData.depth])]
  show some (PyData.bool ((xs.map PyData.int).any _)) = _
  rw [any_int]
@[simp] theorem nin_tupI (x : Int) (xs : List Int) : ninD2 (.int x) (tupI xs) = some (.bool (decide (x ∉ xs))) := by
  unfold ninD2
  rw [if_pos (by show inOk (.int x) (.tuple _) = true; simp [inOk, PyData.plain, plain_ints, depth_ints, PyData.depth])]
  show some (PyData.bool (!(xs.map PyData.int).any _)) = _
  rw [any_int]
  by_cases h : x ∈ xs <;> simp [h]
theorem add_iL (a b : List Int) (h : a.length + b.length ≤ 10000) : addD (iL a) (iL b) = some (iL (a ++ b)) := by
  unfold addD iL
  simp only
  rw [if_pos (by rw [List.length_map, List.length_map, sizeLine_eq]; omega), List.map_append]
@[simp] theorem list_iL (a : List Int) : listD2 [iL a] = some (iL a) := rfl
@[simp] theorem list_tupI (a : List Int) : listD2 [tupI a] = some (iL a) := rfl
@[simp] theorem tuple_iL (a : List Int) : tupleD [iL a] = some (tupI a) := rfl
theorem any_bools (l : List Bool) : anyD [.list (l.map PyData.bool)] = some (.bool (l.any id)) := by
  show (boolsD (l.map PyData.bool)).map _ = _
  rw [boolsD_map]
  rfl
/-! sorted -/
def srtZ (xs : List Int) : List Int := xs.mergeSort leZ
theorem srtOk_ints (xs : List Int) : srtOk (xs.map PyData.int) = true := by
  simp [srtOk, PySem.W.alike, PyData.depth]
theorem sortL_ints (xs : List Int) : sortL (xs.map PyData.int) = (srtZ xs).map PyData.int := by
  unfold sortL srtZ
  refine (List.map_mergeSort (r := leZ) (s := dLe) (f := PyData.int) (l := xs) (fun a _ b _ => ?_)).symm
  show leZ a b = !PySem.W.dataLt (.int b) (.int a)
  rw [PySem.W.dataLt_int, PySem.W.not_lt_int]
  rfl
@[simp] theorem sorted_iL (xs : List Int) : sortedD2 [iL xs] = some (iL (srtZ xs)) := by
  show (if srtOk (xs.map PyData.int) = true then some (PyData.list (sortL (xs.map PyData.int))) else none) = _
  rw [if_pos (srtOk_ints xs), sortL_ints]
  rfl
theorem srtZ_pw (xs : List Int) : (srtZ xs).Pairwise (fun a b => leZ a b = true) :=
  List.pairwise_mergeSort (fun a b c h k => by unfold leZ at *; exact decide_eq_true (Int.le_trans (of_decide_eq_true h) (of_decide_eq_true k))) (fun a b => by
    unfold leZ
    rcases Int.le_total a b with h | h
    · rw [decide_eq_true h]; rfl
    · rw [decide_eq_true h, Bool.or_true]) _
theorem srtZ_perm (xs : List Int) : (srtZ xs).Perm xs := List.mergeSort_perm _ _
theorem mem_srtZ {xs : List Int} {a : Int} : a ∈ srtZ xs ↔ a ∈ xs := (srtZ_perm xs).mem_iff
/-- a list with the same members, rising, is the sorted one -/
theorem srtZ_eq {xs ys : List Int} (h : ys.Pairwise (· < ·)) (p : ys.Perm xs) : srtZ xs = ys := by
  refine (sorted_one (le := leZ) leZ_anti ?_ (h.imp fun q => decide_eq_true (Int.le_of_lt q)) (srtZ_pw xs)).symm
  exact p.trans (srtZ_perm xs).symm
theorem setZ_self {xs : List Int} (h : xs.Pairwise (· < ·)) : setZ xs = xs := (setZ_eq h fun _ => Iff.rfl).symm
theorem setZ_lt (xs : List Int) : (setZ xs).Pairwise (· < ·) := by
  have h1 := setZ_pw xs
  have h2 := setZ_nodup xs
  refine List.Pairwise.imp₂ (fun a b h n => ?_) h1 h2
  have := of_decide_eq_true (show decide (a ≤ b) = true from h)
  exact by omega
theorem rising_eq {xs : List Int} : xs = setZ xs ↔ xs.Pairwise (· < ·) := ⟨fun h => h ▸ setZ_lt xs, fun h => (setZ_self h).symm⟩
theorem pw_ext {xs ys : List Int} (h : xs.Pairwise (· < ·)) (k : ys.Pairwise (· < ·)) (m : ∀ a, a ∈ xs ↔ a ∈ ys) : xs = ys := by
  rw [← setZ_self h]
  exact (setZ_eq k fun a => (m a).symm).symm
end DP
set_option Elab.async false
set_option linter.all false
set_option maxRecDepth 100000
/-! DP, part 45: dict comprehensions of any number of clauses. -/
namespace DP
open PySem PySem.Spec PyProof.Rows L2

theorem cTd_more {kx vx t0 i0 t1 i1 : Expr} {ifs0 ifs1 : List Expr} {gens : List Comprehension} {scope : Scope} {pos : Pos} {k : Nat} (it acc : Value) (env : Env) (hk : gens[k]? = some ⟨t0, i0, ifs0, 0⟩) (hk1 : gens[k + 1]? = some ⟨t1, i1, ifs1, 0⟩) :
    compTurn (.DictComp kx vx gens scope pos) k it acc env = (do
      standAt i0.pos
      match ← pyNext it with
      | none => pure (.done .next)
      | some v =>
        letOwnedTupleGo t0 it v
        assign t0 env v
        let mut ok := true
        for c in ifs0 do if ok then ok ← isTrue c env (eval c env)
        if ok then
          let x ← eval i1 env
          standAt i1.pos
          let x ← foldedSetIterable i1 env x
          let _ ← runOwn (.compStart (.DictComp kx vx gens scope pos) (k + 1) (← holding [x] (pyIter x)) acc env) env
        again (.compLoop (.DictComp kx vx gens scope pos) k it acc env)) := by
  unfold compTurn
  simp only [hk, hk1]
  rfl
theorem cTd_last {kx vx t0 i0 : Expr} {ifs0 : List Expr} {gens : List Comprehension} {scope : Scope} {pos : Pos} {k : Nat} (it : Value) (L : Addr) (env : Env) (hk : gens[k]? = some ⟨t0, i0, ifs0, 0⟩) (hk1 : gens[k + 1]? = none) :
    compTurn (.DictComp kx vx gens scope pos) k it (.ref L) env = (do
      standAt i0.pos
      match ← pyNext it with
      | none => pure (.done .next)
      | some v =>
        letOwnedTupleGo t0 it v
        assign t0 env v
        let mut ok := true
        for c in ifs0 do if ok then ok ← isTrue c env (eval c env)
        if ok then (do
          let kv ← eval kx env
          let vv ← holding [kv] (eval vx env)
          standAt { kx.pos with endLine := vx.pos.endLine, endCol := vx.pos.endCol }
          holding [kv, vv] (dictSet L kv vv))
        again (.compLoop (.DictComp kx vx gens scope pos) k it (.ref L) env)) := by
  unfold compTurn
  simp only [hk, hk1]
  rfl
section
variable {prog : Program} {w : World} {A : Around} {R : Result → Shared → Prop} {s : Shared} {kx vx : Expr} {gens : List Comprehension} {scope : Scope} {pos : Pos} {it : Value} {L : Addr} {env : Env}
/-- what runs behind the tests of clause k - 1: clause k, or the element -/
def RunD (prog : Program) (w : World) (A : Around) (kx vx : Expr) (gens : List Comprehension) (scope : Scope) (pos : Pos) (L : Addr) (env : Env) (E : Value → Shared → Prop) (k : Nat) (Post : Shared → Prop) (s : Shared) : Prop :=
  match gens[k]? with
  | some g => wpAny (model prog w) A (eval g.iter env) (fun x s₄ => wpAny (model prog w) A (pyIter x) (fun it1 s₅ => codeAny (model prog w) A (.compStart (.DictComp kx vx gens scope pos) k it1 (.ref L) env) (fun r s' => match r with
      | .ok _ => Post s'
      | .error _ => False) s₅) E s₄) E s
  | none => wpAny (model prog w) A (eval kx env) (fun kv s₄ => wpAny (model prog w) A (eval vx env) (fun vv s₅ => wpAny (model prog w) A (dictSet L kv vv) (fun _ s₆ => Post s₆) E s₅) E s₄) E s
theorem cLoopD {t0 i0 : Expr} {ifs0 : List Expr} {k : Nat} (hk : gens[k]? = some ⟨t0, i0, ifs0, 0⟩) (hk1 : ∀ g, gens[k + 1]? = some g → g.is_async = 0 ∧ ∀ x, foldedSetIterable g.iter env x = pure x) (I : Nat → Shared → Prop)
    (turn : ∀ n s, I n s → wpAny (model prog w) A (pyNext it) (fun r z₁ => match r with
      | none => R (.ok .next) z₁
      | some v => wpAny (model prog w) A (letOwnedTupleGo t0 it v) (fun _ z₂ => wpAny (model prog w) A (assign t0 env v) (fun _ z₃ =>
          wpAny (model prog w) A (forIn ifs0 true fun c r => if r = true then do let ok ← isTrue c env (eval c env); pure (ForInStep.yield ok) else pure (ForInStep.yield r)) (fun ok z₄ =>
            if ok = true then RunD prog w A kx vx gens scope pos L env (notedBy (model prog w) A env fun e s' => R (.error e) s') (k + 1) (fun s' => ∃ m, m < n ∧ I m s') z₄
            else ∃ m, m < n ∧ I m z₄) (notedBy (model prog w) A env fun e s' => R (.error e) s') z₃) (notedBy (model prog w) A env fun e s' => R (.error e) s') z₂) (notedBy (model prog w) A env fun e s' => R (.error e) s') z₁) (notedBy (model prog w) A env fun e s' => R (.error e) s') s)
    (n : Nat) (h : I n s) : codeAny (model prog w) A (.compLoop (.DictComp kx vx gens scope pos) k it (.ref L) env) R s := by
  refine codeAny_loop rfl I (fun n s hI => ?_) n h
  refine (wpAny_noted ?_ : wpAny _ A ((compTurn (.DictComp kx vx gens scope pos) k it (.ref L) env).onRaise (fun x => do noteFrame x env; theTreesLotGoes x)) _ _ s)
  cases e1 : gens[k + 1]? with
  | some g =>
    obtain ⟨t1, i1, ifs1, as⟩ := g
    obtain ⟨z1, hs⟩ := hk1 _ e1
    simp only at z1 hs
    subst z1
    rw [cTd_more it (.ref L) env hk e1]
    refine wpAny_bind (wpAny_standAt (wpAny_bind (wpAny_mono (turn n s hI) (fun r z₁ h₁ => ?_) fun _ _ q => q)))
    cases r with
    | none => exact wpAny_pure h₁
    | some v =>
      refine wpAny_bind (wpAny_mono h₁ (fun _ z₂ h₂ => wpAny_bind (wpAny_mono h₂ (fun _ z₃ h₃ => wpAny_bind (wpAny_mono h₃ (fun ok z₄ h₄ => ?_) fun _ _ q => q)) fun _ _ q => q)) fun _ _ q => q)
      cases ok with
      | false => exact wpAny_pure ⟨rfl, h₄⟩
      | true =>
        simp only [if_true, RunD, e1] at h₄
        refine wpAny_bind (wpAny_mono h₄ (fun x z₅ h₅ => wpAny_bind (wpAny_standAt (wpAny_bind (wpAny_of_eq (hs x) (wpAny_bind (wpAny_holding (wpAny_mono h₅ (fun it1 z₆ h₆ => wpAny_bind (wpAny_runOwn ?_)) fun _ _ q => q))))))) fun _ _ q => q)
        rw [Around.mark_none]
        refine codeAny_mono h₆ fun r s' hr => ?_
        cases r with
        | error e => exact hr.elim
        | ok f =>
          first
            | exact wpAny_pure ⟨rfl, hr⟩
            | exact wpAny_bind (wpAny_pure (wpAny_pure ⟨rfl, hr⟩))
  | none =>
    rw [cTd_last it L env hk e1]
    refine wpAny_bind (wpAny_standAt (wpAny_bind (wpAny_mono (turn n s hI) (fun r z₁ h₁ => ?_) fun _ _ q => q)))
    cases r with
    | none => exact wpAny_pure h₁
    | some v =>
      refine wpAny_bind (wpAny_mono h₁ (fun _ z₂ h₂ => wpAny_bind (wpAny_mono h₂ (fun _ z₃ h₃ => wpAny_bind (wpAny_mono h₃ (fun ok z₄ h₄ => ?_) fun _ _ q => q)) fun _ _ q => q)) fun _ _ q => q)
      cases ok with
      | false => exact wpAny_pure ⟨rfl, h₄⟩
      | true =>
        simp only [if_true, RunD, e1] at h₄
        exact wpAny_bind (wpAny_bind (wpAny_mono h₄ (fun kv z₅ h₅ => wpAny_bind (wpAny_holding (wpAny_mono h₅ (fun vv z₆ h₆ => wpAny_bind (wpAny_standAt (wpAny_holding (wpAny_mono h₆ (fun _ z₇ h₇ => wpAny_pure ⟨rfl, h₇⟩) fun _ _ q => q)))) fun _ _ q => q))) fun _ _ q => q))
theorem cStartD {k : Nat} {t1 i1 : Expr} {ifs1 : List Expr} (hk : gens[k]? = some ⟨t1, i1, ifs1, 0⟩) (h0 : codeAny (model prog w) A (.compLoop (.DictComp kx vx gens scope pos) k it (.ref L) env) R s)
    (h : wpAny (model prog w) A (pyIter it) (fun it' s' => codeAny (model prog w) A (.compLoop (.DictComp kx vx gens scope pos) k it' (.ref L) env) R s') (notedBy (model prog w) A env fun x s' => R (.error x) s') s) :
    codeAny (model prog w) A (.compStart (.DictComp kx vx gens scope pos) k it (.ref L) env) R s := by
  refine codeAny_of_tree ?_
  refine (wpAny_notedAt ?_ : wpAny _ _ ((compStart (.DictComp kx vx gens scope pos) k it (.ref L) env).onRaise (fun x => do noteFrame x env; standAt theWindowsPlace)) _ _ s)
  unfold compStart
  have e1 : (clausesOf (.DictComp kx vx gens scope pos))[k]? = some ⟨t1, i1, ifs1, 0⟩ := hk
  rw [e1]
  show wpAny _ _ (if (0 != 0) = true then _ else ask >>= _) _ _ s
  rw [if_neg (by decide)]
  refine wpAny_bind (wpAny_askSetting (wpAny_ite ?_))
  split
  · first
      | exact wpAny_bind (wpAny_pure (wpAny_pure (And.intro rfl h0)))
      | exact wpAny_pure (And.intro rfl h0)
  · first
      | exact wpAny_bind (wpAny_rule (wpAny_bind (wpAny_standAt (wpAny_bind (wpAny_mono h (fun it' s' h' => wpAny_pure (And.intro rfl h')) fun _ _ x => x)))))
      | (refine wpAny_bind (wpAny_rule ?_); exact (wpAny_bind (wpAny_standAt (wpAny_bind (wpAny_mono h (fun it' s' h' => wpAny_pure (And.intro rfl h')) fun _ _ x => x))) : wpAny _ _ (standAt i1.pos >>= _) _ _ s))
end

/-- the pair is put into the dict L -/
def tPut (K : PySem.W.Frag) (w : World) (L : Addr) (tk tv : TE) (σ : L2.St) (H : Hp) (Nx : Hp → Prop) : Prop := tk σ H fun k H1 => tv σ H1 fun v H2 => ∃ W es ep dk dv kvs, Same W H2 ∧ Rep K w W dk k ∧ keyOk dk = true ∧ Rep K w W dv v ∧ H2 L = some (dicO L es ep) ∧ RepKV K w W kvs es.toList ∧
  (kvs.map fun p => keyD p.1).Nodup ∧ kvs.length < sizeLine ∧ ∀ es' ep', RepKV K w W (dPut kvs dk dv) es'.toList → ((dPut kvs dk dv).map fun p => keyD p.1).Nodup → Nx (upd H2 L (dicO L es' ep'))
def tNestD (K : PySem.W.Frag) (w : World) (L : Addr) : List (TI × TG × TT × List Nat) → TE → TE → L2.St → Hp → (Hp → Prop) → Prop
  | [], tk, tv, σ, H, Nx => tPut K w L tk tv σ H Nx
  | (wi, g, tt, vs) :: cs, tk, tv, σ, H, Nx => wi σ H fun J H4 => ∃ W1 : Nat → Nat → Hp → Prop, (∃ m, W1 0 m H4) ∧ ∀ j k H, W1 j k H → (J.stop j H ∧ Nx H) ∨
      (J.go j H ∧ ∃ Nx1 : Hp → Prop, (∀ H', Nx1 H' → ∃ k', k' < k ∧ W1 (j + 1) k' H') ∧ ∀ x H', J.yld j H x H' → g x (wipe σ vs) H' fun σ3 H5 => wipe σ3 vs = wipe σ vs ∧ tt σ3 H5 fun b H6 => if b = true then tNestD K w L cs tk tv σ3 H6 Nx1 else Nx1 H6)
/-- L[k] = v, L a dict of one's own, raw -/
theorem put_ok {Y : Cx} {pins : List (Addr × Obj)} {s : Shared} {σ : L2.St} {H W : Hp} {L : Addr} {es : Array DictEntry} {ep : Nat} {dk dv : D} {kvs : List (D × D)} {k v : V} {u z : Value} {Q : Unit → Shared → Prop} {E : Value → Shared → Prop} (hu : Y.A.units + 64 < cLine) (I : Inv Y pins σ H s) (sm : Same W H) (rk : RelV k u) (rv : RelV v z)
    (r1 : Rep Y.K Y.w W dk k) (ok : keyOk dk = true) (r2 : Rep Y.K Y.w W dv v) (hH : H L = some (dicO L es ep)) (kv : RepKV Y.K Y.w W kvs es.toList) (nd : (kvs.map fun p => keyD p.1).Nodup) (hlt : kvs.length < sizeLine)
    (fin : ∀ {s' : Shared} (es' : Array DictEntry) (ep' : Nat) (_ : Nat), RepKV Y.K Y.w W (dPut kvs dk dv) es'.toList → ((dPut kvs dk dv).map fun p => keyD p.1).Nodup → Inv Y pins σ (upd H L (dicO L es' ep')) s' → Q () s') : wpAny (model Y.prog Y.w) Y.A (dictSet L u z) Q E s := by
  obtain ⟨kk, k1, k2⟩ := keyOk_iff ok
  obtain ⟨⟨h1, h2, h3⟩, _⟩ := I.hok L _ hH
  obtain ⟨ks, ek, N⟩ := RepKV.ents I sm kv nd
  have hu8 : Y.A.units + 8 < cLine := by omega
  refine dset0 N hu8 h3 h2 (Rep.key I sm r1 rk k1) k2 fun h' es' ep' r' t hhit e1 e2 e3 => ?_
  have kv' : RepKV Y.K Y.w W (dPut kvs dk dv) es'.toList := by
    rw [e3]
    exact kv.put nd ek k1 k2 hhit rk r1 rv r2
  have hz' : es'.size ≤ sizeLine := by
    have l1 := kv'.len
    have l2 := dPut_len kvs dk dv
    have l3 : es'.toList.length = es'.size := Array.length_toList
    omega
  exact fin es' ep' t kv' (dPut_keys nd) (d_write (t' := t) I (by rw [hH]; exact True.intro) e2 ⟨_, e1⟩ (dicO_new h1 hz' e1))
theorem nest_runD {Y : Cx} {kx vx : Expr} {tk tv : TE} {gens gs : List Comprehension} {scope : Scope} {pos : Pos} {L : Addr} {cs : List (TI × TG × TT × List Nat)} (hc : Y.calm = true) (hxe : Y.xe = fun _ _ => False) (hu : Y.A.units + 64 < cLine) (pk : PE Y kx tk) (pv : PE Y vx tv) (h : NestOk Y gs cs) :
    ∀ {k : Nat} (_ : gens.drop k = gs) {pins : List (Addr × Obj)} {s : Shared} {σ : L2.St} {H : Hp} {Nx : Hp → Prop} {E : Value → Shared → Prop} {Post : Shared → Prop}, Inv Y pins σ H s → tNestD Y.K Y.w L cs tk tv σ H Nx →
      (∀ {σ' : L2.St} {s' : Shared} {H' : Hp}, Inv Y pins σ' H' s' → σ'.length = σ.length → (∀ (j : Nat) v, (wipe σ (allVs cs))[j]? = some (some v) → σ'[j]? = some (some v)) → Nx H' → Post s') → RunD Y.prog Y.w Y.A kx vx gens scope pos L Y.env E k Post s := by
  induction h with
  | nil =>
    intro k hd pins s σ H Nx E Post I q fin
    have e1 : gens[k]? = none := drop_head hd
    unfold RunD
    rw [e1]
    exact thnX (pk.run pins s σ H _ I q) hxe fun u s1 ⟨k, H1, I1, rk, q1⟩ => thnX (pv.run pins s1 σ H1 _ I1 q1) hxe fun z s2 ⟨v, H2, I2, rv, W, es, ep, dk, dv, kvs, sm, r1, ok, r2, hH, kv, nd, hlt, nx⟩ => put_ok hu I2 sm rk rv r1 ok r2 hH kv nd hlt fun es' ep' t kv' nd' I3 => fin I3 rfl (fun j v e => (wipe_some e).1) (nx es' ep' kv' nd')
  | @cons tg iter ifs wi g tt vs gs cs hi hg ht hs hv r ih =>
    intro k hd pins s σ H Nx E Post I q fin
    have e1 : gens[k]? = some ⟨tg, iter, ifs, 0⟩ := drop_head hd
    have hd1 := drop_next hd
    unfold RunD
    rw [e1]
    refine thnX (hi.run pins s σ H _ I q) hxe fun xv s1 hx => thnX hx hxe fun itv s2 ⟨it, fp, tn, J, H2, e2, I2, T, st, f, W1, ⟨m1, w1⟩, turn⟩ => ?_
    subst e2
    have stat : ∀ {H' : Hp}, (∀ b ∈ fp, H' b = none) → ∀ b ∈ fp, FpOk Y pins H' b := fun hn b hb => ⟨hn b hb, (f b hb).2⟩
    have loop : codeAny (model Y.prog Y.w) Y.A (.compLoop (.DictComp kx vx gens scope pos) k (.ref it) (.ref L) Y.env) (fun r s' => match r with | .ok _ => Post s' | .error _ => False) s2 := by
      refine cLoopD e1 (fun g eg => r.head Y.env g (by rw [← drop_head hd1]; exact eg)) (fun n s' => ∃ j H', Inv Y pins (wipe σ vs) H' s' ∧ tn j s'.heap ∧ (∀ b ∈ fp, H' b = none) ∧ W1 j n H') ?_ m1 ⟨0, H2, I2.weak (wipe_length _ _) (fun j v e => (wipe_some e).1), st, fun b hb => (f b hb).1, w1⟩
      rintro n s3 ⟨j, H3, I3, st3, n3, w3⟩
      rcases turn j n H3 w3 with ⟨stop, nx⟩ | ⟨go, Nx1, hNx1, step⟩
      · refine thnF (T.done Y rfl rfl rfl hc j _ s3 (wipe σ vs) H3 (fun _ _ => False) I3 (stat n3) st3 stop) fun r s4 ⟨hr, I4⟩ => ?_
        subst hr
        exact fin I4 (wipe_length σ vs) (fun j v e => e) nx
      · refine thnF (T.item Y rfl rfl rfl hc j _ s3 (wipe σ vs) H3 (fun _ _ => False) I3 (stat n3) st3 go) fun r s4 ⟨u, hr, h4⟩ => ?_
        subst hr
        refine thnF h4 fun _ s5 ⟨x, H5, I5, r5, y5, st5, n5⟩ => ?_
        have I5' := I5.pinned (stat n5) (T.obj _ _ st5)
        refine thnX (hg.run _ s5 (wipe σ vs) H5 x u _ I5' r5 (step x H5 y5)) hxe fun _ s6 ⟨σ6, H6, I6, hw6, q6⟩ => ?_
        refine thnX (ht.run _ s6 σ6 H6 _ I6 q6) hxe fun b s7 ⟨H7, I7, q7⟩ => ?_
        have back : ∀ {σ8 : L2.St} {s' : Shared} {H' : Hp}, Inv Y (pins ++ pinsAt fp s5.heap) σ8 H' s' → σ8.length = σ6.length → (∀ (j : Nat) v, (wipe σ6 vs)[j]? = some (some v) → σ8[j]? = some (some v)) → Nx1 H' →
            ∃ m, m < n ∧ ∃ j H', Inv Y pins (wipe σ vs) H' s' ∧ tn j s'.heap ∧ (∀ b ∈ fp, H' b = none) ∧ W1 j m H' := fun {σ8 s' H'} I' hl hk nx => by
          obtain ⟨m', hm, w'⟩ := hNx1 H' nx
          have pin' : ∀ b ∈ fp, ∀ o, s5.heap.get? b = some o → s'.heap.get? b = some o ∧ H' b = none := fun b hb o e =>
            let z := I'.pin (b, o) (List.mem_append_right _ (List.mem_append_right _ (mem_pinsAt hb e)))
            ⟨z.1, z.2.1⟩
          refine ⟨m', hm, j + 1, H', I'.unpinned.weak (by rw [← hw6, wipe_length, hl]) (fun j v e => hk j v (by rw [hw6]; exact e)), T.keep _ _ _ st5 fun b hb o e => (pin' b hb o e).1, fun b hb => ?_, w'⟩
          obtain ⟨o, e, _⟩ := T.obj _ _ st5 b hb
          exact (pin' b hb o e).2
        cases b with
        | false =>
          simp only [Bool.false_eq_true, if_false] at q7 ⊢
          exact back I7 rfl (fun j v e => (wipe_some e).1) q7
        | true =>
          simp only [if_true] at q7 ⊢
          refine ih hd1 I7 q7 fun {σ8 s' H'} I8 hl hk nx => back I8 hl (fun j v e => hk j v ?_) nx
          obtain ⟨q1, q2⟩ := wipe_some e
          rw [DP.wipe_out _ fun z => q2 (hv j z)]
          exact q1
    exact cStartD e1 loop (T.self Y.A 0 _ _ _ st loop)

def tDcN (X : Cx) (wi : TI) (g : TG) (tt : TT) (cs : List (TI × TG × TT × List Nat)) (tk tv : TE) (vs : List Nat) : TE := fun σ H Q => wi σ H fun J H1 => ∀ L, H1 L = none → ∃ W : Nat → Nat → Hp → Prop, (∃ m, W 0 m (upd H1 L (dicO L #[] 0))) ∧ ∀ i m H, W i m H →
  (J.stop i H ∧ Q (.ref L) H) ∨ (J.go i H ∧ ∃ Nx : Hp → Prop, (∀ H', Nx H' → ∃ m', m' < m ∧ W (i + 1) m' H') ∧ ∀ x H', J.yld i H x H' → g x (wipe σ vs) H' fun σ2 H2 => wipe σ2 vs = wipe σ vs ∧ tt σ2 H2 fun b H3 => if b = true then tNestD X.K X.w L cs tk tv σ2 H3 Nx else Nx H3)
section
variable {X : Cx}
theorem pe_dcN {kx vx tg iter : Expr} {ifs : List Expr} {gs : List Comprehension} {scope : Scope} {own : List (Str × Nat)} {pos : Pos} {wi : TI} {g : TG} {tt : TT} {tk tv : TE} {cs : List (TI × TG × TT × List Nat)} (hc : X.calm = true) (hu : X.A.units + 64 < cLine) (hN : X.N.Nodup) (hi : PI X tg iter wi) (ok : BlkOk X.N X.env.scope scope own)
    (hv : ∀ j ∈ allVs cs, j ∈ own.map (·.2)) (hg : ∀ s H C cl fp, PG (X.blk s H scope (compEnvC scope cl C X.env) fp) tg g) (ht : ∀ s H C cl fp, PTs (X.blk s H scope (compEnvC scope cl C X.env) fp) ifs tt)
    (hcs : ∀ s H C cl fp, NestOk (X.blk s H scope (compEnvC scope cl C X.env) fp) gs cs) (hk : ∀ s H C cl fp, PE (X.blk s H scope (compEnvC scope cl C X.env) fp) kx tk) (he : ∀ s H C cl fp, PE (X.blk s H scope (compEnvC scope cl C X.env) fp) vx tv) (hs : ∀ x, foldedSetIterable iter X.env x = pure x := by intro _; rfl) :
    PE X (.DictComp kx vx (⟨tg, iter, ifs, 0⟩ :: gs) scope pos) (tDcN X wi g tt cs tk tv (own.map (·.2))) := by
  refine ⟨fun pins s σ H Q I h => ?_⟩
  rw [arm_eval_DictComp]
  have free : ∀ y ∈ scope.names, y.2 = .free → ∃ c, X.env.cells.lookup y.1 = some c := fun y hy e => (ok.free y hy e).elim (fun k => I.ok.has _ (.inl k)) fun k => I.ok.has _ (.inr k)
  refine wpAny_comprehension_free (use := none) rfl hs (closure_ok free) ok.kind (fun y hy e => by rw [ok.uniq y hy, e]) (thn (hi.run pins s σ H _ I h) fun xv z1 hx => thn hx fun itv z2 h2 => ?_)
  obtain ⟨it, fp, tn, J, H2, e, I2, T, st2, f2, q⟩ := h2
  subst e
  refine wpAny_newObj_type (newEnv_comp ?_)
  generalize hL : z2.heap.objs.size = L
  have nL : H2 L = none := I2.hok.fresh (Nat.le_of_eq hL)
  obtain ⟨W, ⟨m0, w0⟩, turn⟩ := q L nL
  generalize hz3 : ({ z2 with heap := z2.heap.push dct0 } : Shared) = z3
  have hp3 : z3.heap = z2.heap.push dct0 := by rw [← hz3]
  have I3 : Inv X pins σ (upd H2 L (dicO L #[] 0)) z3 := by
    rw [← hz3]
    exact I2.laid (t' := z2.toks) (fun b o e => Heap.get?_push_of_some _ e) (Nat.le_of_eq hL) (dicO_new (by rw [← hL]; exact beq_eq_false_iff_ne.mpr (Nat.ne_of_gt I2.big)) (Nat.zero_le _) (by rw [← hL]; exact Heap.get?_push_size _ rfl))
  have lt : ∀ b ∈ fp, b < z2.heap.objs.size := fun b hb => let ⟨_, e, _⟩ := T.obj _ _ st2 b hb; Heap.lt_size e
  have f3 : ∀ b ∈ fp, FpOk X pins (upd H2 L (dicO L #[] 0)) b ∧ b < z3.heap.objs.size := fun b hb =>
    ⟨⟨by rw [upd_ne (by rw [← hL]; exact Nat.ne_of_lt (lt b hb))]; exact (f2 b hb).1, (f2 b hb).2⟩, by rw [hp3, Heap.size_push]; exact Nat.lt_succ_of_lt (lt b hb)⟩
  have st3 : tn 0 z3.heap := T.keep _ _ _ st2 fun b _ o e => by rw [hp3]; exact Heap.get?_push_of_some _ e
  have I4 := block_start I3 ok hN f3
  generalize hH3 : upd H2 L (dicO L #[] 0) = H3 at I3 I4 w0 f3
  have pg := hg z3 H3 z3.heap.objs.size (cellsFrom (z3.heap.objs.size + 1) scope.names (cloFrom X.env.cells scope.names [])) fp
  have pt := ht z3 H3 z3.heap.objs.size (cellsFrom (z3.heap.objs.size + 1) scope.names (cloFrom X.env.cells scope.names [])) fp
  have pk := hk z3 H3 z3.heap.objs.size (cellsFrom (z3.heap.objs.size + 1) scope.names (cloFrom X.env.cells scope.names [])) fp
  have pe := he z3 H3 z3.heap.objs.size (cellsFrom (z3.heap.objs.size + 1) scope.names (cloFrom X.env.cells scope.names [])) fp
  have pn := hcs z3 H3 z3.heap.objs.size (cellsFrom (z3.heap.objs.size + 1) scope.names (cloFrom X.env.cells scope.names [])) fp
  have fp0 : ∀ b ∈ fp, H3 b = none := fun b hb => (f3 b hb).1.1
  show codeAny _ _ (.compStart (.DictComp kx vx (⟨tg, iter, ifs, 0⟩ :: gs) scope pos) 0 (.ref it) (.ref L) (compEnvC scope (cellsFrom (z3.heap.objs.size + 1) scope.names (cloFrom X.env.cells scope.names [])) z3.heap.objs.size X.env)) (compPost (model X.prog X.w) X.A X.xe none _ (.ref L) z3.heap.objs.size) { z3 with heap := pushCells (z3.heap.push dct0) scope.names }
  generalize hce : compEnvC scope (cellsFrom (z3.heap.objs.size + 1) scope.names (cloFrom X.env.cells scope.names [])) z3.heap.objs.size X.env = ce at I4 pg pt pk pe pn ⊢
  have cL : ce.locals = z3.heap.objs.size := by subst hce; rfl
  generalize hz4 : ({ z3 with heap := pushCells (z3.heap.push dct0) scope.names } : Shared) = z4 at I4 ⊢
  have st4 : tn 0 z4.heap := T.keep _ _ _ st3 fun b _ o e => by rw [← hz4]; exact pushCells_keeps _ _ _ _ (Heap.get?_push_of_some _ e)
  have stat : ∀ {σ' : L2.St} {H' : Hp} {s' : Shared}, Inv (X.blk z3 H3 scope ce fp) [] σ' H' s' → (∀ b ∈ fp, H' b = none) → ∀ b ∈ fp, FpOk (X.blk z3 H3 scope ce fp) [] H' b := fun {σ' H' s'} I' hn b hb =>
    ⟨hn b hb, (I'.ok.exf b hb).1, I'.ok.exfs b hb, .inl hb, fun x c e => (I'.ok.exf b hb).2 x c e, fun p hp => absurd (hp : p ∈ ([] : List (Addr × Obj)) ++ []) (by simp)⟩
  have loop : codeAny (model X.prog X.w) X.A (.compLoop (.DictComp kx vx (⟨tg, iter, ifs, 0⟩ :: gs) scope pos) 0 (.ref it) (.ref L) ce) (compPost (model X.prog X.w) X.A X.xe none (EP X pins σ Q) (.ref L) z3.heap.objs.size) z4 := by
    refine cLoopD (gens := ⟨tg, iter, ifs, 0⟩ :: gs) rfl (fun g eg => pn.head ce g (by rw [List.head?_eq_getElem?]; exact eg)) (fun n s' => ∃ i H', Inv (X.blk z3 H3 scope ce fp) [] (wipe σ (own.map (·.2))) H' s' ∧ tn i s'.heap ∧ (∀ b ∈ fp, H' b = none) ∧ W i n H') ?_ m0 ⟨0, H3, I4, st4, fp0, w0⟩
    rintro n z5 ⟨i, H5, I5, st5, n5, w5⟩
    rcases turn i n H5 w5 with ⟨stop, qq⟩ | ⟨go, Nx, hNx, step⟩
    · refine thnF (T.done (X.blk z3 H3 scope ce fp) rfl rfl rfl hc i [] z5 _ H5 (fun _ _ => False) I5 (stat I5 n5) st5 stop) fun r z6 ⟨hr, I6⟩ => ?_
      subst hr
      have I7 : Inv X pins σ H5 z6 := I3.call' (ch := fp) I6.os I6.base I6.hok I6.bare fun b hb => let y := (f3 b hb).1.2; ⟨y.2.2.1, y.1, y.2.2.2.1, y.2.2.2.2⟩
      have nC : H5 z3.heap.objs.size = none := by rw [← cL]; exact I6.free
      obtain ⟨m, hn, _⟩ := I6.loc
      obtain ⟨f0, f1, f2, f3', f4, f5⟩ := I3.fpOk (Nat.le_refl _) nC
      exact ⟨m, (by rw [← cL]; exact hn), fun h'' sb => ⟨.ref L, H5, I7.turned (t' := z6.toks) (fun b o hb e => (sb.2 b hb).trans e) f0 f1 f3' f4 f5, rfl, qq⟩⟩
    · refine thnF (T.item (X.blk z3 H3 scope ce fp) rfl rfl rfl hc i [] z5 _ H5 (fun _ _ => False) I5 (stat I5 n5) st5 go) fun r z6 ⟨u, hr, h6⟩ => ?_
      subst hr
      refine thnF h6 fun _ z7 ⟨x, H7, I7, r7, y7, st7, n7⟩ => ?_
      have I7' := I7.pinned (stat I7 n7) (T.obj _ _ st7)
      refine thnF (pg.run _ z7 _ H7 x u _ I7' r7 (step x H7 y7)) fun _ z8 ⟨σ8, H8, I8, hw8, q8⟩ => ?_
      refine thnF (pt.run _ z8 σ8 H8 _ I8 q8) fun b z9 ⟨H9, I9, q9⟩ => ?_
      have fin : ∀ {σ9 : L2.St} {s' : Shared} {H' : Hp}, Inv (X.blk z3 H3 scope ce fp) ([] ++ pinsAt fp z7.heap) σ9 H' s' → σ9.length = σ8.length → (∀ (j : Nat) v, (wipe σ (own.map (·.2)))[j]? = some (some v) → σ9[j]? = some (some v)) → Nx H' →
          ∃ m, m < n ∧ ∃ i H', Inv (X.blk z3 H3 scope ce fp) [] (wipe σ (own.map (·.2))) H' s' ∧ tn i s'.heap ∧ (∀ b ∈ fp, H' b = none) ∧ W i m H' := fun {σ9 s' H'} I' hl hk nx => by
        obtain ⟨m', hm, w'⟩ := hNx H' nx
        have pin' : ∀ b ∈ fp, ∀ o, z7.heap.get? b = some o → s'.heap.get? b = some o ∧ H' b = none := fun b hb o e =>
          let z := I'.pin (b, o) (List.mem_append_right _ (List.mem_append_right _ (mem_pinsAt hb e)))
          ⟨z.1, z.2.1⟩
        refine ⟨m', hm, i + 1, H', (I'.unpinned (pins := [])).weak (by rw [hl, ← hw8, wipe_length]) hk, T.keep _ _ _ st7 fun b hb o e => (pin' b hb o e).1, fun b hb => ?_, w'⟩
        obtain ⟨o, e, _⟩ := T.obj _ _ st7 b hb
        exact (pin' b hb o e).2
      cases b with
      | false =>
        simp only [Bool.false_eq_true, if_false] at q9 ⊢
        exact fin I9 rfl (fun j v e => by rw [← hw8] at e; exact (wipe_some e).1) q9
      | true =>
        simp only [if_true] at q9 ⊢
        refine nest_runD (Y := X.blk z3 H3 scope ce fp) hc rfl hu pk pe pn (gens := ⟨tg, iter, ifs, 0⟩ :: gs) (k := 1) rfl I9 q9 fun {σ9 s' H'} I' hl hk nx => fin I' hl (fun j v e => hk j v ?_) nx
        rw [← hw8] at e
        obtain ⟨e1, e2⟩ := wipe_some e
        rw [DP.wipe_out _ fun z => e2 (hv j z)]
        exact e1
  exact codeAny_compStart_dict loop (T.self X.A 0 _ _ _ st4 loop)
end
def loopP (inner : Ev → Out (List (D × D) × Ev)) (g : GF) (ts : TF) (vs : List Nat) : List D → Ev → Out (List (D × D) × Ev)
  | [], env => .ok ([], env)
  | x :: xs, env => match g x env with
    | none => .bad
    | some e1 => (ts e1).bind fun t => if t.1 = true then (inner t.2).bind fun y => (loopP inner g ts vs xs (wipeE y.2 vs)).bind fun r => .ok (y.1 ++ r.1, r.2) else loopP inner g ts vs xs (wipeE t.2 vs)
def nestP (fk fv : XF) : List ClD → Ev → Out (List (D × D) × Ev)
  | [], env => (fk env).bind fun k => (fv k.2).bind fun v => .ok ([(k.1, v.1)], v.2)
  | c :: cs, env => (c.it env).bind fun r => loopP (nestP fk fv cs) c.g c.ts c.vs r.1 (wipeE r.2 c.vs)
def xDcN (it : IF) (g : GF) (ts : TF) (cs : List ClD) (fk fv : XF) (vs : List Nat) : XF := fun env => (it env).bind fun r => match loopP (nestP fk fv cs) g ts vs r.1 (wipeE r.2 vs) with
  | .ok (ds, e) => if ds.length ≤ sizeLine ∧ pairsOk ds = true then .ok (.dict (dMerge [] ds), backE r.2 e vs) else .bad
  | _ => .bad
section
variable (X : Cx) (L : Addr) (W1 H1 : Hp) (A1 : List (List Addr)) (ρ : Nat → Addr)
/-- within a comprehension that makes the dict L: done is in it -/
structure CSd (env : Ev) (σ : L2.St) (done : List (D × D)) (W H : Hp) (A : List (List Addr)) : Prop where
  sr : SR X.K X.w ρ W H env σ A
  fr : Fr W1 H1 (ownd A1) W H (ownd A)
  nw : W L = none
  no : ¬ ownd A L
  at_ : ∃ es ep, H L = some (dicO L es ep) ∧ RepKV X.K X.w W (dMerge [] done) es.toList ∧ ((dMerge [] done).map fun p => keyD p.1).Nodup
variable {X L W1 H1 A1 ρ}
variable {env env' : Ev} {σ σ' : L2.St} {done : List (D × D)} {W H W' H' : Hp} {A A' : List (List Addr)}
theorem CSd.step (C : CSd X L W1 H1 A1 ρ env σ done W H A) (S' : SR X.K X.w ρ W' H' env' σ' A') (F : Fr W H (ownd A) W' H' (ownd A')) : CSd X L W1 H1 A1 ρ env' σ' done W' H' A' := by
  obtain ⟨es, ep, a1, a2, a3⟩ := C.at_
  refine ⟨S', C.fr.trans F, ?_, fun z => ?_, es, ep, F.keep L _ a1 C.no, RepKV.mono F.ext _ _ a2, a3⟩
  · cases z : W' L with
    | none => rfl
    | some u =>
      rcases F.new L (by rw [z]; exact fun z => nomatch z) C.nw with q | q
      · exact absurd q C.no
      · rw [a1] at q; cases q
  · rcases F.own L z with q | q
    · exact C.no q
    · rw [a1] at q; cases q
theorem CSd.wipe (C : CSd X L W1 H1 A1 ρ env σ done W H A) (vs : List Nat) : CSd X L W1 H1 A1 ρ (wipeE env vs) (L2.wipe σ vs) done W H (wipeA A vs) :=
  C.step (C.sr.wipe vs) (fr_sub fun p h => ownd_wipe h)
theorem CSd.put (C : CSd X L W1 H1 A1 ρ env σ done W H A) (nL : H1 L = none) {k v : D} {es' : Array DictEntry} {ep' : Nat} (r : RepKV X.K X.w W (dPut (dMerge [] done) k v) es'.toList) (nd : ((dPut (dMerge [] done) k v).map fun p => keyD p.1).Nodup) :
    CSd X L W1 H1 A1 ρ env σ (done ++ [(k, v)]) W (upd H L (dicO L es' ep')) A := by
  have e : dMerge [] (done ++ [(k, v)]) = dPut (dMerge [] done) k v := by unfold dMerge; rw [List.foldl_append]; rfl
  refine ⟨C.sr.keep (Same.refl _) (fun b u q => ?_) fun b hb => ⟨upd_ne fun e => C.no (e ▸ hb), (C.sr.own hb).1⟩, ⟨C.fr.ext, fun b u hb hp => ?_, C.fr.new, C.fr.own⟩, C.nw, C.no, es', ep', upd_same, by rw [e]; exact r, by rw [e]; exact nd⟩
  · rw [upd_ne (fun e => by rw [e, C.nw] at q; cases q)]
    exact C.sr.sub b u q
  · rw [upd_ne (fun e => by rw [e, nL] at hb; cases hb)]
    exact C.fr.keep b u hb hp
/-- what the clauses that are left do -/
def NestRdD (X : Cx) (L : Addr) (W1 H1 : Hp) (A1 : List (List Addr)) (ρ : Nat → Addr) (fk fv : XF) (cs : List ClD) : Prop := ∀ (σ : L2.St) (H W : Hp) (env : Ev) (A : List (List Addr)) (done ys : List (D × D)) (env' : Ev) (Nx : Hp → Prop),
  CSd X L W1 H1 A1 ρ env σ done W H A → nestP fk fv cs env = .ok (ys, env') → done.length + ys.length ≤ sizeLine → pairsOk (done ++ ys) = true →
    (∀ W' H' A', CSd X L W1 H1 A1 ρ env' (σAft σ cs) (done ++ ys) W' H' A' → Same W W' → Nx H') → tNestD X.K X.w L (tiOf X cs) (tX X Wx0 fk) (tX X Wx0 fv) σ H Nx
/-- one clause's loop -/
theorem loop_readD {fk fv : XF} {cs : List ClD} {g : GF} {ts : TF} {us vs : List Nat} (hus : ∀ j ∈ us, j ∈ vs) (hcs : ∀ c ∈ cs.head?, ∀ j ∈ c.vs, j ∈ vs) (NR : NestRdD X L W1 H1 A1 ρ fk fv cs) {xs : List D} {J : It} {ys : List (D × D)} {envE : Ev} {Fin : Hp → Prop}
    (wk : Wk X.K X.w W xs J) (C : CSd X L W1 H1 A1 ρ env (L2.wipe σ vs) done W H A) (h : loopP (nestP fk fv cs) g ts vs xs env = .ok (ys, envE)) (hz : done.length + ys.length ≤ sizeLine) (hok : pairsOk (done ++ ys) = true)
    (fin : ∀ W' H' A', CSd X L W1 H1 A1 ρ envE (L2.wipe σ vs) (done ++ ys) W' H' A' → Same W W' → Fin H') :
    ∃ W2 : Nat → Nat → Hp → Prop, (∃ m, W2 0 m H) ∧ ∀ j k H, W2 j k H → (J.stop j H ∧ Fin H) ∨
      (J.go j H ∧ ∃ Nx1 : Hp → Prop, (∀ H', Nx1 H' → ∃ k', k' < k ∧ W2 (j + 1) k' H') ∧ ∀ x H', J.yld j H x H' → tGt X us g x (L2.wipe σ vs) H' fun σ3 H5 => L2.wipe σ3 vs = L2.wipe σ vs ∧ tT X Wx0 ts σ3 H5 fun b H6 => if b = true then tNestD X.K X.w L (tiOf X cs) (tX X Wx0 fk) (tX X Wx0 fv) σ3 H6 Nx1 else Nx1 H6) := by
  refine ⟨fun i m H => m = xs.length - i ∧ i ≤ xs.length ∧ ∃ W2 env2 A2 done2 rest, CSd X L W1 H1 A1 ρ env2 (L2.wipe σ vs) done2 W2 H A2 ∧ Same W W2 ∧ done2 ++ rest = done ++ ys ∧ loopP (nestP fk fv cs) g ts vs (xs.drop i) env2 = .ok (rest, envE),
    ⟨xs.length, by simp, Nat.zero_le _, W, env, A, done, ys, C, Same.refl _, rfl, h⟩, ?_⟩
  rintro i m H2 ⟨rfl, hi, W2, env2, A2, done2, rest, C2, s2, eq2, c2⟩
  by_cases hlt : i < xs.length
  · obtain ⟨x, hx⟩ : ∃ x, xs[i]? = some x := ⟨_, List.getElem?_eq_getElem hlt⟩
    have hd : xs.drop i = x :: xs.drop (i + 1) := by
      have e1 := List.drop_eq_getElem_cons hlt
      rw [List.getElem?_eq_getElem hlt] at hx
      cases hx
      exact e1
    rw [hd] at c2
    unfold loopP at c2
    refine .inr ⟨wk.go i H2 W2 s2 C2.sr.sub hlt, fun H => i + 1 ≤ xs.length ∧ ∃ W2 env2 A2 done2 rest, CSd X L W1 H1 A1 ρ env2 (L2.wipe σ vs) done2 W2 H A2 ∧ Same W W2 ∧ done2 ++ rest = done ++ ys ∧ loopP (nestP fk fv cs) g ts vs (xs.drop (i + 1)) env2 = .ok (rest, envE),
      fun H' ⟨q1, q2⟩ => ⟨xs.length - (i + 1), by omega, rfl, q1, q2⟩, fun v H4 y => ?_⟩
    obtain ⟨W4, e4, r4⟩ := wk.yld i H2 W2 v H4 x s2 C2.sr.sub hx y
    have S4 := C2.sr.ex e4
    cases eg : g x env2 with
    | none => rw [eg] at c2; cases c2
    | some env5 =>
      rw [eg] at c2
      simp only at c2
      refine ⟨ρ, W4, env2, A2, x, env5, S4, r4, eg, fun σ5 A5 S5 p5 a5 => ?_⟩
      have ws : L2.wipe σ5 vs = L2.wipe σ vs := by rw [wipe_agr a5 hus, wipe_wipe]
      have C5 : CSd X L W1 H1 A1 ρ env5 σ5 done2 W4 H4 A5 := C2.step S5 ((e4.fr _).trans (fr_sub p5))
      refine ⟨by rw [ws], step0 S5 c2 fun b W6 H6 env6 A6 k S6 F6 r6 c6 => ?_⟩
      subst r6
      have C6 := C5.step S6 F6
      have s6 := (s2.trans e4.ext).trans F6.ext
      cases k with
      | false =>
        simp only [Bool.false_eq_true, if_false] at c6
        have C7 := C6.wipe vs
        rw [ws] at C7
        exact iteF ⟨hlt, W6, _, _, done2, rest, C7, s6, eq2, c6⟩
      | true =>
        simp only [if_true] at c6
        refine iteT ?_
        cases en : nestP fk fv cs env6 with
        | bad => rw [en] at c6; cases c6
        | exc c d e => rw [en] at c6; cases c6
        | ok yr =>
          obtain ⟨y1, env7⟩ := yr
          rw [en, Out.bind_ok] at c6
          cases ed : loopP (nestP fk fv cs) g ts vs (xs.drop (i + 1)) (wipeE env7 vs) with
          | bad => rw [ed] at c6; cases c6
          | exc c d' e => rw [ed] at c6; cases c6
          | ok rr =>
            obtain ⟨rest', envE'⟩ := rr
            rw [ed, Out.bind_ok] at c6
            obtain ⟨c8, c9⟩ : y1 ++ rest' = rest ∧ envE' = envE := by
              injection c6 with c6
              injection c6 with c6 c9
              exact ⟨c6, c9⟩
            subst c9
            have hlen : done2.length + y1.length ≤ sizeLine := by
              have e1 := congrArg List.length eq2
              rw [← c8] at e1
              simp only [List.length_append] at e1
              omega
            have hok1 : pairsOk (done2 ++ y1) = true := by
              rw [← eq2, ← c8, ← List.append_assoc] at hok
              unfold pairsOk at hok ⊢
              rw [List.all_append, Bool.and_eq_true] at hok
              exact hok.1
            refine NR σ5 H6 W6 env6 A6 done2 y1 env7 _ C6 en hlen hok1 fun W7 H7 A7 C7 s7 => ?_
            have C8 := C7.wipe vs
            have ws' : L2.wipe (σAft σ5 cs) vs = L2.wipe σ vs := by
              cases cs with
              | nil => exact ws
              | cons c cs' =>
                have z : L2.wipe (L2.wipe σ5 c.vs) vs = L2.wipe σ5 vs := wipe_agr (us := c.vs) ⟨wipe_length _ _, fun j hj => DP.wipe_out _ hj⟩ (hcs c (by simp))
                exact z.trans ws
            rw [ws'] at C8
            exact ⟨hlt, W7, _, _, done2 ++ y1, rest', C8, s6.trans s7, by rw [List.append_assoc, c8]; exact eq2, ed⟩
  · have ei : i = xs.length := by omega
    subst ei
    refine .inl ⟨wk.stop _ H2 W2 s2 C2.sr.sub (Nat.le_refl _), ?_⟩
    rw [List.drop_length] at c2
    unfold loopP at c2
    obtain ⟨rfl, rfl⟩ : rest = [] ∧ env2 = envE := by
      injection c2 with c2
      injection c2 with c2 c5
      exact ⟨c2.symm, c5⟩
    rw [List.append_nil] at eq2
    subst eq2
    exact fin W2 H2 A2 C2 s2
theorem nest_readD (nL : H1 L = none) {fk fv : XF} {cs : List ClD} (h : ClsIn cs) : NestRdD X L W1 H1 A1 ρ fk fv cs := by
  induction h with
  | nil =>
    intro σ H W env A done ys env' Nx C e hz hok fin
    unfold nestP at e
    refine step0 C.sr e fun k W6 H6 env6 A6 kv S6 F6 r6 c6 => ?_
    refine step0 S6 c6 fun d W7 H7 env7 A7 v7 S7 F7 r7 c7 => ?_
    obtain ⟨e1, e2⟩ : [(k, d)] = ys ∧ env7 = env' := by
      injection c7 with c7
      injection c7 with c7 c9
      exact ⟨c7, c9⟩
    subst e1 e2
    have C7 := (C.step S6 F6).step S7 F7
    obtain ⟨es, ep, a1, a2, a3⟩ := C7.at_
    have kk : keyOk k = true := by
      unfold pairsOk at hok
      rw [List.all_append, Bool.and_eq_true] at hok
      simpa using hok.2
    refine ⟨W7, es, ep, k, d, _, S7.sub, Rep.mono F7.ext _ _ r6, kk, r7, a1, a2, a3, ?_, fun es' ep' r nd => fin W7 _ A7 (C7.put nL r nd) (F6.ext.trans F7.ext)⟩
    have := dMerge_len done []
    simp only [List.length_cons, List.length_nil] at hz this
    omega
  | @cons c cs hu hk _ ih =>
    intro σ H W env A done ys env' Nx C e hz hok fin
    unfold nestP at e
    show tI X Wx0 c.it σ H _
    refine step0 C.sr e fun xs W4 H4 env4 A4 J S4 F4 wk c4 => ?_
    exact loop_readD (us := c.us) (vs := c.vs) hu hk ih wk ((C.step S4 F4).wipe c.vs) c4 hz hok fun W' H' A' C' s' => fin W' H' A' C' (F4.ext.trans s')
end
section
variable {X : Cx} {Wx : WX} {it : IF} {g : GF} {ts : TF} {fk fv : XF} {cs : List ClD} {us vs : List Nat} {σ : L2.St} {H : Hp} {Q : VK}
theorem dcN_read (hus : ∀ j ∈ us, j ∈ vs) (hcs : ∀ c ∈ cs.head?, ∀ j ∈ c.vs, j ∈ vs) (hin : ClsIn cs) (h : tN X Wx (xDcN it g ts cs fk fv vs) σ H Q) : tDcN X (tI X Wx it) (tGt X us g) (tT X Wx0 ts) (tiOf X cs) (tX X Wx0 fk) (tX X Wx0 fv) vs σ H Q := by
  obtain ⟨ρ, W, env, A, S, h⟩ := h
  unfold xDcN at h
  refine tN_then S h fun xs W1 H1 env1 A1 J S1 F1 wk h1 => ?_
  intro L nL
  cases ec : loopP (nestP fk fv cs) g ts vs xs (wipeE env1 vs) with
  | bad => rw [ec] at h1; exact h1.elim
  | exc c d e => rw [ec] at h1; exact h1.elim
  | ok r =>
    obtain ⟨ds, envE⟩ := r
    simp only [ec] at h1
    by_cases hz : ds.length ≤ sizeLine ∧ pairsOk ds = true
    · rw [if_pos hz] at h1
      have nW : W1 L = none := S1.sub.free nL
      have oL : ¬ ownd A1 L := fun z => by
        obtain ⟨_, u, hu⟩ := S1.own z
        rw [nL] at hu; cases hu
      have E := Ex.junk (o := dicO L #[] 0) S1.sub nL
      have C : CSd X L W1 H1 A1 ρ env1 σ [] W1 (upd H1 L (dicO L #[] 0)) A1 := ⟨S1.ex E, E.fr _, nW, oL, #[], 0, upd_same, by show RepKV X.K X.w W1 [] [] ; simp only [RepKV], by show ([].map _).Nodup; exact List.nodup_nil⟩
      refine loop_readD hus hcs (nest_readD nL hin) wk (C.wipe vs) ec (by simpa using hz.1) hz.2 fun W2 H2 A2 C2 s2 => ?_
      exact h1 W2 H2 _ L (SR.back C2.sr S1 s2) (C2.fr.trans (fr_sub fun p h => ownd_wipe h)) C2.nw C2.at_ (fun z => C2.no (ownd_wipe z)) (.inr nL)
    · rw [if_neg hz] at h1
      exact h1.elim
end
theorem en_dcN {X : Cx} {Wx : WX} {it : IF} {g : GF} {ts : TF} {fk fv : XF} {cs : List ClD} {us : List Nat} {kx vx tg iter : Expr} {ifs : List Expr} {gs : List Comprehension} {scope : Scope} {own : List (Str × Nat)} {pos : Pos} (hc : X.calm = true) (hu : X.A.units + 64 < cLine) (hN : X.N.Nodup) (hi : EI X Wx tg iter it)
    (ok : BlkOk X.N X.env.scope scope own) (hus : us ⊆ own.map (·.2)) (hin : ClsIn cs) (hh : ∀ c ∈ cs.head?, ∀ j ∈ c.vs, j ∈ own.map (·.2)) (hg : ∀ s H C cl fp, EG (X.blk s H scope (compEnvC scope cl C X.env) fp) tg us g)
    (ht : ∀ s H C cl fp, EQ (X.blk s H scope (compEnvC scope cl C X.env) fp) Wx0 ifs ts) (hcs : ∀ s H C cl fp, ClsOk (X.blk s H scope (compEnvC scope cl C X.env) fp) gs cs) (hk : ∀ s H C cl fp, EX (X.blk s H scope (compEnvC scope cl C X.env) fp) Wx0 kx fk) (he : ∀ s H C cl fp, EX (X.blk s H scope (compEnvC scope cl C X.env) fp) Wx0 vx fv)
    (hs : ∀ x, foldedSetIterable iter X.env x = pure x := by intro _; rfl) : EN X Wx (.DictComp kx vx (⟨tg, iter, ifs, 0⟩ :: gs) scope pos) (xDcN it g ts cs fk fv (own.map (·.2))) :=
  PE.wk (pe_dcN hc hu hN hi ok (fun j hj => let ⟨c, hc, hj'⟩ := allVs_tiOf hj; hh c hc j hj') hg ht (fun s H C cl fp => (hcs s H C cl fp).nest (X := X) rfl rfl rfl hin) hk he hs) fun σ H Q h => dcN_read (fun j hj => hus hj) hh hin h
end DP
set_option Elab.async false
set_option linter.all false
set_option maxRecDepth 100000
/-! DP, part 46: reads of one's own containers whose answer is a number or a truth value; d.get(k, x); d.pop(k); sum and set of a tuple; + and * that make a list; min of alike data. -/
namespace DP
open PySem PySem.Spec PyProof.Rows L2

/-! ### peeks -/
def frzS : Sl → Sl
  | .ow _ c => .fz c
  | .nd kvs => .fz (.dict (kvs.map fun p => (p.1, .dict p.2)))
  | s => s
/-- all of one's own, looked at as if it were frozen -/
def frzE (env : Ev) : Ev := env.map frzS
def xPeek (f : XF) : XF := fun env => match f (frzE env) with
  | .ok (d, _) => if flatD d = true then .ok (d, env) else .bad
  | _ => .bad
def tPeek (f : TF) : TF := fun env => match f (frzE env) with
  | .ok (b, _) => .ok (b, env)
  | _ => .bad
section
variable {K : PySem.W.Frag} {w : World} {ρ : Nat → Addr} {W W' H : Hp} {env : Ev} {σ : L2.St} {A : List (List Addr)}
theorem NdR.rep : ∀ {kvs : List (D × List (D × D))} {es : List DictEntry} {qs : List Addr}, NdR K w W H kvs es qs → Same W W' → (∀ p ∈ qs, W' p = H p) → RepKV K w W' (kvs.map fun p => (p.1, .dict p.2)) es
  | [], es, _, ⟨h, _⟩, _, _ => by subst h; simp [RepKV]
  | (k, m) :: r, _, _, ⟨e, q, es', qs', e1, e2, h1, ⟨x, h2, h3⟩, h4, n, ⟨ies, iep, o1, o2, o3⟩, t⟩, s, hk => by
    subst e1 e2
    simp only [List.map_cons, RepKV]
    refine ⟨e, es', rfl, h1, ⟨x, h2, Rep.mono s k x h3⟩, ⟨.ref q, h4, ?_⟩, NdR.rep t s fun p hp => hk p (List.mem_cons_of_mem _ hp)⟩
    simp only [Rep]
    exact ⟨q, ies, iep, rfl, (hk q List.mem_cons_self).trans o1, RepKV.mono s m _ o2, o3⟩
theorem ownd_none {p : Addr} : ¬ ownd (A.map fun _ => ([] : List Addr)) p := fun ⟨i, l, h, hp⟩ => by
  rw [List.getElem?_map] at h
  obtain ⟨_, _, e⟩ := Option.map_eq_some_iff.mp h
  subst e
  cases hp
theorem SR.frz (S : SR K w ρ W H env σ A) : ∃ W1, SR K w ρ W1 H (frzE env) σ (A.map fun _ => []) ∧ Same W W1 := by
  classical
  refine ⟨fun b => if ownd A b then H b else W b, ?_, ?_⟩
  · have sm : Same W (fun b => if ownd A b then H b else W b) := fun b u q => by
      show (if ownd A b then H b else W b) = some u
      rw [if_neg fun z => by rw [(S.own z).1] at q; cases q]
      exact q
    refine ⟨fun b u q => ?_, by unfold frzE; rw [List.length_map]; exact S.le, by rw [List.length_map]; exact S.la, fun i s v l h1 h2 h3 => ?_, fun i j l m p h1 _ hp => absurd ⟨i, l, h1, hp⟩ ownd_none⟩
    · by_cases z : ownd A b
      · simp only [if_pos z] at q; exact q
      · simp only [if_neg z] at q; exact S.sub _ _ q
    · unfold frzE at h1
      rw [List.getElem?_map] at h1 h3
      obtain ⟨s0, e0, rfl⟩ := Option.map_eq_some_iff.mp h1
      obtain ⟨l0, f0, rfl⟩ := Option.map_eq_some_iff.mp h3
      have sl := S.slot i s0 v l0 e0 h2 f0
      cases s0 with
      | no => rfl
      | fz d =>
        obtain ⟨_, x, q1, q2⟩ := sl
        exact ⟨rfl, x, q1, Rep.mono sm d x q2⟩
      | sc ns =>
        obtain ⟨_, x, q1, q2⟩ := sl
        exact ⟨rfl, x, q1, Same.sql sm q2⟩
      | xe d =>
        obtain ⟨_, x, q1, q2⟩ := sl
        exact ⟨rfl, x, q1, q2.mono sm⟩
      | ow t c =>
        obtain ⟨p, e1, e2, q1, q2, _⟩ := sl
        subst e1
        have hp : ownd A p := ⟨i, [p], f0, by simp⟩
        refine ⟨rfl, .ref p, e2, ?_⟩
        have e3 : (fun b => if ownd A b then H b else W b) p = H p := if_pos hp
        cases c with
        | list ds =>
          obtain ⟨vs, g1, g2⟩ := q2
          simp only [Rep]
          exact ⟨p, vs, rfl, e3.trans g1, RepL.mono sm ds vs g2⟩
        | dict kvs =>
          obtain ⟨es, ep, g1, g2, g3⟩ := q2
          simp only [Rep]
          exact ⟨p, es, ep, rfl, e3.trans g1, RepKV.mono sm kvs _ g2, g3⟩
        | _ => exact q2.elim
      | nd kvs =>
        obtain ⟨p, qs, es, ep, e1, e2, q1, q2, q3, q4, _⟩ := sl
        subst e1
        have hp : ∀ b ∈ p :: qs, (fun b => if ownd A b then H b else W b) b = H b := fun b hb => if_pos ⟨i, p :: qs, f0, hb⟩
        refine ⟨rfl, .ref p, e2, ?_⟩
        simp only [Rep]
        exact ⟨p, es, ep, rfl, (hp p List.mem_cons_self).trans q2, q3.rep sm fun b hb => hp b (List.mem_cons_of_mem _ hb), by rw [List.map_map]; exact q4⟩
  · intro b u q
    show (if ownd A b then H b else W b) = some u
    rw [if_neg fun z => by rw [(S.own z).1] at q; cases q]
    exact q
end
section
variable {X : Cx} {Wx : WX} {a : Expr} {f : XF} {tf : TF}
theorem peek_back {K : PySem.W.Frag} {w : World} {ρ : Nat → Addr} {W W1 W' H H' : Hp} {env : Ev} {σ : L2.St} {A A' : List (List Addr)} (S : SR K w ρ W H env σ A) (s1 : Same W W1) (e : Same W1 W') (sub : Same W' H') (F : Fr W1 H (ownd (A.map fun _ => ([] : List Addr))) W' H' (ownd A')) : SR K w ρ W H' env σ A ∧ Fr W H (ownd A) W H' (ownd A) := by
  have kp : ∀ b u, H b = some u → H' b = some u := fun b u q => F.keep b u q ownd_none
  refine ⟨S.keep (Same.refl _) ((s1.trans e).trans sub) fun b hb => ?_, Same.refl _, fun b u q _ => kp b u q, fun _ h1 h2 => absurd h2 h1, fun _ h => .inl h⟩
  obtain ⟨n, u, hu⟩ := S.own hb
  exact ⟨by rw [hu]; exact kp b u hu, n⟩
theorem ex_peek (h : EX X Wx a f) : EX X Wx a (xPeek f) := by
  refine PE.wk h ?_
  rintro σ H Q ⟨ρ, W, env, A, S, h⟩
  obtain ⟨W1, S1, s1⟩ := S.frz
  refine ⟨ρ, W1, frzE env, _, S1, ?_⟩
  unfold xPeek at h
  cases ef : f (frzE env) with
  | bad => rw [ef] at h; exact h.elim
  | exc c d e => rw [ef] at h; exact h.elim
  | ok r =>
    obtain ⟨d, e1⟩ := r
    rw [ef] at h
    dsimp only at h
    split at h
    · rename_i c
      intro W' H' A' v S' F' r'
      obtain ⟨S2, F2⟩ := peek_back S s1 F'.ext S'.sub F'
      exact h W H' A v S2 F2 (flatD_rep c r')
    · exact h.elim
theorem et_peek (h : ET X Wx a tf) : ET X Wx a (tPeek tf) := by
  refine PT.wk h ?_
  rintro σ H Q ⟨ρ, W, env, A, S, h⟩
  obtain ⟨W1, S1, s1⟩ := S.frz
  refine ⟨ρ, W1, frzE env, _, S1, ?_⟩
  unfold tPeek at h
  cases ef : tf (frzE env) with
  | bad => rw [ef] at h; exact h.elim
  | exc c d e => rw [ef] at h; exact h.elim
  | ok r =>
    obtain ⟨d, e1⟩ := r
    rw [ef] at h
    intro W' H' A' v S' F' r'
    obtain ⟨S2, F2⟩ := peek_back S s1 F'.ext S'.sub F'
    exact h W H' A v S2 F2 r'
end

/-! ### methods of a dict -/
section
variable {X : Cx} {Wx : WX}
def tDM (r : V → List V → Hp → VK → Prop) (to : TE) (ta : TA) : TE := fun σ H Q => to σ H fun x H1 => (∃ a es ep, x = .ref a ∧ H1 a = some (dicO a es ep)) ∧ ta σ H1 fun vs H2 => r x vs H2 Q
theorem pe_dm {o e : Expr} {es : List Expr} {name : Str} {id : String} {apos cpos : Pos} {r : V → List V → Hp → VK → Prop} {to : TE} {t : TA} (slot : Slot "dict" name id) (hty : typeOf (.builtin id) = pure (.type "method_descriptor")) (hm : MtM X id r) (ho : PE X o to) (ha : PA X (e :: es) t)
    (hbase : attributeBase o name X.env (eval o X.env) = eval o X.env := by rfl)
    (hfew : ((backTo cpos (starEach (e :: es) X.env)).all (fun x => !x.1) && (backToKw cpos (keywordEach [] X.env)).all (fun x => x.1.isSome) && decide ((e :: es).length + ([] : List Keyword).length + (if ([] : List Keyword).isEmpty then 0 else 1) < 30)) = true := by rfl)
    (hline : (apos.endLine == cpos.line) = true := by rfl) (hs : starEach (e :: es) X.env = (false, eval e X.env) :: starEach es X.env := by rfl) (hplain : (backTo cpos (starEach es X.env)).any (·.1) = false := by rfl) : PE X (.Call (.Attribute o name apos) (e :: es) [] cpos) (tDM r to t) := by
  refine ⟨fun pins s σ H Q I h => ?_⟩
  refine wpAny_Call_method_late hbase hfew hline rfl (thn (ho.run pins s σ H _ I h) fun u s1 ⟨x, H1, I1, r1, ⟨a, es', ep, ex, hH⟩, q1⟩ => ?_)
  subst ex
  obtain rfl : u = Value.ref a := r1
  obtain ⟨⟨h1, h2, h3⟩, _⟩ := I1.hok a _ hH
  refine ⟨"dict", id, PySem.F.plainAttrs_dict, slot, hty, dobj_type h3, fun b e => ?_, ?_⟩
  · cases e
    exact ⟨_, h3, rfl⟩
  · have hA := ha.run cpos pins s1 σ H1 _ I1 q1
    rw [hs] at hA ⊢
    refine Calls.callWith_builtin (by show (false || (backTo cpos (starEach es X.env)).any (·.1)) = false; rw [hplain] <;> rfl) (Calls.evalArgs_plain ?_)
    exact thn hA fun us s2 ⟨vs, H2, I2, r2, q2⟩ => hm pins s2 σ H2 (.ref a) vs _ us Q I2 rfl r2 q2
/-- d.get(k, x) -/
def rGetDic (X : Cx) : V → List V → Hp → VK → Prop := fun o vs H Q => ∃ W a es ep k x kvs u z, o = .ref a ∧ vs = [u, z] ∧ Same W H ∧ Rep X.K X.w W k u ∧ keyOk k = true ∧ Rep X.K X.w W x z ∧ H a = some (dicO a es ep) ∧ RepKV X.K X.w W kvs es.toList ∧ (kvs.map fun p => keyD p.1).Nodup ∧ ∀ v, Rep X.K X.w W ((dAt kvs k).getD x) v → Q v H
theorem mt_getDic (hu : X.A.units + 64 < cLine) : MtM X "dict.get" (rGetDic X) := by
  intro pins s σ H o vs v us Q I ro rv h
  obtain ⟨W, a, es, ep, k, x, kvs, u, z, rfl, rfl, sm, rk, ok, rx, hH, kv, nd, q⟩ := h
  cases ro
  obtain ⟨u1, u2, rfl, r1, r2⟩ := vals2 rv
  obtain ⟨kk, k1, k2⟩ := keyOk_iff ok
  obtain ⟨⟨h1, h2, h3⟩, _⟩ := I.hok a _ hH
  obtain ⟨ks, ek, N⟩ := RepKV.ents I sm kv nd
  refine dget2 N (by omega) h1 h3 (Rep.key I sm rk r1 k1) k2 fun r t hr => ?_
  cases r with
  | none =>
    have e := (hit_none ek k1 hr).1
    rw [e] at q
    exact ⟨z, H, I.tok _, r2, q z rx⟩
  | some j =>
    obtain ⟨p, p1, p2, p3, _⟩ := hit_some ek nd k1 hr
    obtain ⟨e, e1, _⟩ := N.get (show ks[j]? = some kk from hr)
    obtain ⟨k', v', q1, _, _, y, q2, q3⟩ := kv.at (j := j) (e := e) (by rw [Array.getElem?_toList]; exact e1)
    rw [p1] at q1
    cases q1
    rw [p3] at q
    simp only [Option.bind_some, e1, Option.map_some, Option.getD_some] at q ⊢
    exact ⟨y, H, I.tok _, q2, q y q3⟩
theorem filter_drop : ∀ {kvs : List (D × D)} {j : Nat} {p : D × D} {k : D}, (kvs.map fun p => keyD p.1).Nodup → kvs[j]? = some p → keyD p.1 = keyD k → kvs.filter (fun q => !kIs k q) = kvs.eraseIdx j
  | [], _, _, _, _, h, _ => by simp at h
  | x :: r, 0, p, k, hn, h, e => by
    cases h
    rw [List.map_cons, List.nodup_cons] at hn
    show (x :: r).filter _ = r
    rw [List.filter_cons_of_neg (by simp [kIs, e])]
    refine List.filter_eq_self.mpr fun y hy => ?_
    have ne : keyD y.1 ≠ keyD k := fun z => hn.1 (by rw [e, ← z]; exact List.mem_map.mpr ⟨y, hy, rfl⟩)
    simp [kIs, ne]
  | x :: r, j + 1, p, k, hn, h, e => by
    have h2 : r[j]? = some p := by simpa using h
    rw [List.map_cons, List.nodup_cons] at hn
    have ne : keyD x.1 ≠ keyD k := fun z => hn.1 (by rw [z, ← e]; exact List.mem_map.mpr ⟨p, List.mem_of_getElem? h2, rfl⟩)
    show (x :: r).filter _ = x :: r.eraseIdx j
    rw [List.filter_cons_of_pos (by simp [kIs, ne]), filter_drop hn.2 h2 e]
theorem RepKV.erase {K : PySem.W.Frag} {w : World} {W : Hp} : ∀ {kvs : List (D × D)} {es : List DictEntry} (j : Nat), RepKV K w W kvs es → RepKV K w W (kvs.eraseIdx j) (es.eraseIdx j)
  | [], es, j, h => by simp only [RepKV] at h; subst h; simp [RepKV]
  | (k, d) :: r, _, 0, h => by
    simp only [RepKV] at h
    obtain ⟨e, q, rfl, _, _, _, h4⟩ := h
    exact h4
  | (k, d) :: r, _, j + 1, h => by
    simp only [RepKV] at h
    obtain ⟨e, q, rfl, h1, h2, h3, h4⟩ := h
    simp only [List.eraseIdx_cons_succ, RepKV]
    exact ⟨e, _, rfl, h1, h2, h3, RepKV.erase j h4⟩
/-- the dict without k -/
def dDrop (kvs : List (D × D)) (k : D) : List (D × D) := kvs.filter fun q => !kIs k q
end
section
variable {prog : Program} {w : World} {A : Around} {E : Value → Shared → Prop} {s : Shared} {a : Addr} {es : Array DictEntry} {ep : Nat} {ks : List NestedKey} {k : NestedKey} {u : Value}
/-- d.pop(k), k in d -/
theorem dpop {j : Nat} {e : DictEntry} (N : Ents w s.heap ks es) (hu : A.units + 9 < cLine) (hs : (a == sysModules) = false) (ho : s.heap.get? a = some (dobj es ep)) (hz : es.size ≤ sizeLine) (hk : NestedIs s.heap k u) (dk : k.depth ≤ 8) (hj : ks[j]? = some k) (he : es[j]? = some e) {Q : Value → Shared → Prop}
    (h : ∀ h' es' ep' t, h'.get? a = some (dobj es' ep') → Heap.SameBut a s.heap h' → es'.toList = es.toList.eraseIdx j → Q e.val { s with heap := h', toks := t }) : wpAny (model prog w) A (call (.builtin "dict.pop") [.ref a, u]) Q E s := by
  have T := dobj_type ho
  refine call_meetsIn F.slot_dict_pop T F.entry_dict_pop (F.args_dict_pop_2 _ _) (S := fun A' R s' => A' = A ∧ s' = s ∧ ∀ h' es' ep' t, h'.get? a = some (dobj es' ep') → Heap.SameBut a s.heap h' → es'.toList = es.toList.eraseIdx j → R (.ok (.ret e.val)) { s with heap := h', toks := t }) (fun A' R s' hS => ?_) ⟨rfl, rfl, h⟩
  obtain ⟨rfl, rfl, hq⟩ := hS
  have hem : es.isEmpty = false := by
    cases z : es.isEmpty with
    | false => rfl
    | true =>
      have z : es.size = 0 := by simpa using z
      rw [Array.getElem?_eq_none (by omega)] at he
      cases he
  have fin : wpAny (model prog w) A'.in1 (Builtin.Dict.takeOut a u) (fun old s₂ => old = some e ∧ ∃ h' es' ep' t, h'.get? a = some (dobj es' ep') ∧ Heap.SameBut a s'.heap h' ∧ es'.toList = es.toList.eraseIdx j ∧ s₂ = { s' with heap := h', toks := t }) (fun e s' => R (.error e) s') s' := by
    unfold Builtin.Dict.takeOut
    try with_reducible refine wpAny_holding ?_
    have hu1 : A'.in1.units + 8 < cLine := by simp only [Around.in1_units]; omega
    refine wpAny_bind (pyHash_key k u _ s' _ hk (by omega) ?_)
    have N' : Ents w ({ s' with toks := s'.toks + k.draws } : Shared).heap ks es := N
    refine wpAny_bind (dictFind_any (s := { s' with toks := s'.toks + k.draws }) N' hu1 ho rfl hk dk fun r hr => ?_)
    cases r with
    | none => exact absurd (List.mem_of_getElem? hj) hr
    | some i =>
      have := N.one hr hj
      subst this
      refine wpAny_bind (wpAny_dictEntries (s := { s' with toks := s'.toks + k.draws }) ho rfl ?_)
      rw [he]
      refine wpAny_bind (wpAny_updateDictKeys (hz := hz) (s := { s' with toks := s'.toks + k.draws }) ho rfl (wpAny_pure ⟨rfl, _, _, ep + 1, _, Heap.get?_update_self _ ho rfl, Heap.SameBut.update .., DT.eraseA _ _, rfl⟩))
  unfold Builtin.«dict.pop»
  refine wpAny_bind ?_
  unfold Builtin.Dict.keyAndDefault
  refine wpAny_bind (wpAny_notOrdered_dict T ?_)
  show wpAny _ _ (pure (a, u, none)) _ _ s'
  refine wpAny_pure ?_
  cases hp : (keyPart u).isSome with
  | true =>
    simp only [hp, if_true]
    refine wpAny_bind (wpAny_pure ?_)
    simp only [Bool.false_eq_true, if_false]
    refine wpAny_bind (wpAny_mono fin (fun old s₂ ⟨h1, h', es', ep', t, g1, g2, g3, g4⟩ => ?_) fun _ _ q => q)
    subst h1 g4
    simp only [Option.isNone_some, Bool.false_eq_true, if_false]
    exact wpAny_bind (wpAny_letGo (wpAny_pure (hq h' es' ep' t g1 g2 g3)))
  | false =>
    simp only [hp, Bool.false_eq_true, if_false]
    refine wpAny_bind (wpAny_dictEntries ho rfl (wpAny_bind (wpAny_pure ?_)))
    simp only [hem, Bool.false_eq_true, if_false]
    refine wpAny_bind (wpAny_mono fin (fun old s₂ ⟨h1, h', es', ep', t, g1, g2, g3, g4⟩ => ?_) fun _ _ q => q)
    subst h1 g4
    simp only [Option.isNone_some, Bool.false_eq_true, if_false]
    exact wpAny_bind (wpAny_letGo (wpAny_pure (hq h' es' ep' t g1 g2 g3)))
end
end DP
set_option Elab.async false
set_option linter.all false
set_option maxRecDepth 100000
/-! DP, part 47: d.get, d.pop as expressions; sum, set, min over data; + and * that make a list. -/
namespace DP
open PySem PySem.Spec PyProof.Rows L2

section
variable {X : Cx} {Wx : WX}
/-- d.pop(k), k in d -/
def rPopDic (X : Cx) : V → List V → Hp → VK → Prop := fun o vs H Q => ∃ W a es ep k kvs u d, o = .ref a ∧ vs = [u] ∧ Same W H ∧ Rep X.K X.w W k u ∧ keyOk k = true ∧ H a = some (dicO a es ep) ∧ RepKV X.K X.w W kvs es.toList ∧ (kvs.map fun p => keyD p.1).Nodup ∧ dAt kvs k = some d ∧
  ∀ es' ep' v, RepKV X.K X.w W (dDrop kvs k) es'.toList → ((dDrop kvs k).map fun p => keyD p.1).Nodup → Rep X.K X.w W d v → Q v (upd H a (dicO a es' ep'))
theorem mt_popDic (hu : X.A.units + 64 < cLine) : MtM X "dict.pop" (rPopDic X) := by
  intro pins s σ H o vs v us Q I ro rv h
  obtain ⟨W, a, es, ep, k, kvs, u, d, rfl, rfl, sm, rk, ok, hH, kv, nd, hd, q⟩ := h
  cases ro
  obtain ⟨u1, rfl, r1⟩ := Vals.one rv
  obtain ⟨kk, k1, k2⟩ := keyOk_iff ok
  obtain ⟨⟨h1, h2, h3⟩, _⟩ := I.hok a _ hH
  obtain ⟨ks, ek, N⟩ := RepKV.ents I sm kv nd
  have hm : kk ∈ ks := by
    by_cases hit : kk ∈ ks
    · exact hit
    · have := (hit_none ek k1 (show Hit ks kk none from hit)).1
      rw [this] at hd; cases hd
  obtain ⟨j, hj⟩ := List.getElem?_of_mem hm
  obtain ⟨p, p1, p2, p3, _⟩ := hit_some ek nd k1 (show Hit ks kk (some j) from hj)
  obtain ⟨e, e1, _⟩ := N.get hj
  obtain ⟨k', v', q1, _, _, y, q2, q3⟩ := kv.at (j := j) (e := e) (by rw [Array.getElem?_toList]; exact e1)
  rw [p1] at q1
  cases q1
  rw [p3] at hd
  cases hd
  refine dpop N (by omega) h1 h3 h2 (Rep.key I sm rk r1 k1) k2 hj e1 fun h' es' ep' t g1 g2 g3 => ?_
  have ed : dDrop kvs k = kvs.eraseIdx j := filter_drop nd p1 p2
  have kv' : RepKV X.K X.w W (dDrop kvs k) es'.toList := by
    rw [ed, g3]
    exact kv.erase j
  have nd' : ((dDrop kvs k).map fun p => keyD p.1).Nodup := nd.sublist ((List.filter_sublist).map _)
  have hz' : es'.size ≤ sizeLine := by
    have l1 := kv'.len
    have l2 : (dDrop kvs k).length ≤ kvs.length := List.length_filter_le _ _
    have l3 := kv.len
    rw [Array.length_toList] at l1 l3
    omega
  exact ⟨y, _, d_write (t' := t) I (by rw [hH]; exact True.intro) g2 ⟨_, g1⟩ (dicO_new h1 hz' g1), q2, q es' ep' y kv' nd' q3⟩
def xGetB (i : Nat) (g : AF) : XF := fun env => match slotC env i with
  | some (.dict _) => (g env).bind fun r => match r.1 with
    | [k, x] => (match slotC r.2 i with
      | some (.dict kvs) => if keyOk k = true then .ok ((dAt kvs k).getD x, r.2) else .bad
      | _ => .bad)
    | _ => .bad
  | _ => .bad
theorem slotC_dict {ρ : Nat → Addr} {σ : L2.St} {W H : Hp} {A : List (List Addr)} {env : Ev} {i : Nat} {kvs : List (D × D)} (S : SR X.K X.w ρ W H env σ A) (h : slotC env i = some (.dict kvs)) : ∃ a es ep, σ[i]? = some (some (.ref a)) ∧ H a = some (dicO a es ep) ∧ RepKV X.K X.w W kvs es.toList ∧ (kvs.map fun p => keyD p.1).Nodup := by
  unfold slotC at h
  cases e : env[i]? with
  | none => rw [e] at h; cases h
  | some sl =>
    rw [e] at h
    obtain ⟨v, l, h1, h2, h3⟩ := S.at e
    cases sl with
    | fz d =>
      cases h
      obtain ⟨_, x, rfl, r⟩ := h3
      simp only [Rep] at r
      obtain ⟨a, es, ep, rfl, q, kv, nd⟩ := r
      exact ⟨a, es, ep, h1, S.sub _ _ q, kv, nd⟩
    | ow t d =>
      cases h
      obtain ⟨p, _, rfl, _, ⟨es, ep, q, kv, nd⟩, _⟩ := h3
      exact ⟨p, es, ep, h1, q, kv, nd⟩
    | _ => cases h
theorem ex_getB {i : Nat} {x : Str} {p apos cpos : Pos} {e : Expr} {es : List Expr} {g : AF} (hu : X.A.units + 64 < cLine) (h : PE X (.Name x p) (tVar i)) (ha : EA X Wx (e :: es) g)
    (hbase : attributeBase (.Name x p) "get" X.env (eval (.Name x p) X.env) = eval (.Name x p) X.env := by rfl)
    (hfew : ((backTo cpos (starEach (e :: es) X.env)).all (fun x => !x.1) && (backToKw cpos (keywordEach [] X.env)).all (fun x => x.1.isSome) && decide ((e :: es).length + ([] : List Keyword).length + (if ([] : List Keyword).isEmpty then 0 else 1) < 30)) = true := by rfl)
    (hline : (apos.endLine == cpos.line) = true := by rfl) (hs : starEach (e :: es) X.env = (false, eval e X.env) :: starEach es X.env := by rfl) (hplain : (backTo cpos (starEach es X.env)).any (·.1) = false := by rfl) :
    EX X Wx (.Call (.Attribute (.Name x p) "get" apos) (e :: es) [] cpos) (xGetB i g) := by
  refine PE.wk (pe_dm PySem.F.slot_dict_get PySem.F.type_dict_get (mt_getDic hu) h ha hbase hfew hline hs hplain) ?_
  rintro σ H Q ⟨ρ, W, env, A, S, h⟩
  unfold xGetB at h
  split at h
  · rename_i kvs0 e0
    obtain ⟨a, es0, ep0, h1, h2, _, _⟩ := slotC_dict S e0
    refine ⟨.ref a, h1, ⟨a, es0, ep0, rfl, h2⟩, tG_then S h fun ds W1 H1 env1 A1 vs S1 F1 r1 h3 => ?_⟩
    dsimp only at h3
    split at h3
    · rename_i k x
      split at h3
      · rename_i kvs e1
        split at h3
        · rename_i ok
          obtain ⟨a', es1, ep1, g1, g2, g3, g4⟩ := slotC_dict S1 e1
          rw [h1] at g1
          cases g1
          simp only [RepL] at r1
          obtain ⟨u, _, rfl, ru, z, _, rfl, rz, rfl⟩ := r1
          exact ⟨W1, a, es1, ep1, k, x, kvs, u, z, rfl, rfl, S1.sub, ru, ok, rz, g2, g3, g4, fun v r => h3 W1 H1 A1 v S1 (Fr.refl _ _ _) r⟩
        · exact h3.elim
      · exact h3.elim
    · exact h3.elim
  · exact h.elim
def xPopK (i : Nat) (g : AF) : XF := fun env => match env[i]? with
  | some (.ow _ (.dict _)) => (g env).bind fun r => match r.1 with
    | [k] => (match r.2[i]? with
      | some (.ow t (.dict kvs)) => (match dAt kvs k with
        | some d => if keyOk k = true then .ok (d, r.2.set i (.ow t (.dict (dDrop kvs k)))) else .bad
        | none => .bad)
      | _ => .bad)
    | _ => .bad
  | _ => .bad
theorem ex_popK {i : Nat} {x : Str} {p apos cpos : Pos} {e : Expr} {es : List Expr} {g : AF} (hu : X.A.units + 64 < cLine) (h : PE X (.Name x p) (tVar i)) (ha : EA X Wx (e :: es) g)
    (hbase : attributeBase (.Name x p) "pop" X.env (eval (.Name x p) X.env) = eval (.Name x p) X.env := by rfl)
    (hfew : ((backTo cpos (starEach (e :: es) X.env)).all (fun x => !x.1) && (backToKw cpos (keywordEach [] X.env)).all (fun x => x.1.isSome) && decide ((e :: es).length + ([] : List Keyword).length + (if ([] : List Keyword).isEmpty then 0 else 1) < 30)) = true := by rfl)
    (hline : (apos.endLine == cpos.line) = true := by rfl) (hs : starEach (e :: es) X.env = (false, eval e X.env) :: starEach es X.env := by rfl) (hplain : (backTo cpos (starEach es X.env)).any (·.1) = false := by rfl) :
    EX X Wx (.Call (.Attribute (.Name x p) "pop" apos) (e :: es) [] cpos) (xPopK i g) := by
  refine PE.wk (pe_dm PySem.F.slot_dict_pop PySem.F.type_dict_pop (mt_popDic hu) h ha hbase hfew hline hs hplain) ?_
  rintro σ H Q ⟨ρ, W, env, A, S, h⟩
  unfold xPopK at h
  split at h
  · rename_i t0 kvs0 e0
    obtain ⟨v, l, h1, h2, h3⟩ := S.at e0
    obtain ⟨a, rfl, rfl, q3, ⟨es0, ep0, q4, _⟩, _⟩ := h3
    refine ⟨.ref a, h1, ⟨a, es0, ep0, rfl, q4⟩, tG_then S h fun ds W1 H1 env1 A1 vs S1 F1 r1 h3 => ?_⟩
    dsimp only at h3
    split at h3
    · rename_i k
      split at h3
      · rename_i t kvs e1
        split at h3
        · rename_i d hd
          split at h3
          · rename_i ok
            obtain ⟨v, l, g1, g2, g3⟩ := S1.at e1
            obtain ⟨a', rfl, e3, g4, ⟨es1, ep1, g5, g6, g7⟩, g8⟩ := g3
            rw [h1] at g1
            have ea : a' = a := by cases g1; cases e3; rfl
            subst ea
            simp only [RepL] at r1
            obtain ⟨u, _, rfl, ru, rfl⟩ := r1
            refine ⟨W1, a', es1, ep1, k, kvs, u, d, rfl, rfl, S1.sub, ru, ok, g5, g6, g7, hd, fun es' ep' v kv' nd' rd => ?_⟩
            obtain ⟨S2, F2⟩ := S1.mut (c' := .dict (dDrop kvs k)) (o := dicO a' es' ep') e1 h1 ⟨es', ep', upd_same, kv', nd'⟩
            exact h3 W1 _ A1 v S2 F2 rd
          · exact h3.elim
        · exact h3.elim
      · exact h3.elim
    · exact h3.elim
  · exact h.elim
end

/-! ### + and * that make a list -/
section
variable {X : Cx} {Wx : WX}
def addN : D → D → Option D
  | .list xs, .list ys => if xs.length + ys.length ≤ sizeLine then some (.list (xs ++ ys)) else none
  | _, _ => none
def mulN : D → D → Option D
  | .list xs, .int j => if s64 j && decide (-(2 ^ 63) ≤ j) && decide (j < 2 ^ 63) && decide (xs.length * j.toNat ≤ sizeLine) then some (.list (List.replicate j.toNat xs).flatten) else none
  | _, _ => none
theorem op_addN : OpR X (binaryOp .Add) (tW2 X.K X.w addN) := by
  refine OpR.wk op_cat ?_
  rintro v u H Q ⟨W, x, y, s, r1, r2, h⟩
  unfold addN at h
  split at h
  · simp only [Rep] at r1 r2
    obtain ⟨a, vs, rfl, q1, l1⟩ := r1
    obtain ⟨b, us, rfl, q2, l2⟩ := r2
    split at h
    · rename_i c
      exact ⟨a, b, vs, us, rfl, rfl, s _ _ q1, s _ _ q2, by rw [l1.len, l2.len]; exact c, fun p n => h.lst s (l1.append l2) n⟩
    · exact h.elim
  · exact h.elim
theorem op_mulN : OpR X (binaryOp .Mult) (tW2 X.K X.w mulN) := by
  refine OpR.wk op_rep ?_
  rintro v u H Q ⟨W, x, y, s, r1, r2, h⟩
  unfold mulN at h
  split at h
  · simp only [Rep] at r1 r2
    obtain ⟨a, vs, rfl, q1, l1⟩ := r1
    subst r2
    split at h
    · rename_i c
      simp only [Bool.and_eq_true, decide_eq_true_eq] at c
      refine ⟨a, _, vs, rfl, rfl, s _ _ q1, c.1.1.2, c.1.2, by rw [l1.len]; exact c.2, fun p n => ?_⟩
      exact h.lst s (RepL.rep l1 _) n
    · exact h.elim
  · exact h.elim
theorem en_bin {op : Operator} {o : D → D → Option D} {a b : Expr} {f g : XF} {pos : Pos} (ho : OpR X (binaryOp op) (tW2 X.K X.w o)) (ha : EX X Wx a f) (hb : EX X Wx b g) : EN X Wx (.BinOp a op b pos) (x2 o f g) := by
  refine PE.wk (pe_op ho ha hb) ?_
  rintro σ H Q ⟨ρ, W, env, A, S, h⟩
  unfold x2 at h
  refine tN_then S h fun d W1 H1 env1 A1 v S1 F1 r1 h1 => ?_
  refine tN_then S1 h1 fun d2 W2 H2 env2 A2 u S2 F2 r2 h2 => ?_
  exact ⟨W2, d, d2, S2.sub, Rep.mono F2.ext _ _ r1, r2, onW_of S2 h2⟩
end

/-! ### sum(xs), set(xs) of a tuple of ints; min(xs) of alike data -/
def sumD2 : List D → Option D
  | [.list ds] => (intsD ds).map fun bs => .int bs.sum
  | [.tuple ds] => (intsD ds).map fun bs => .int bs.sum
  | _ => none
def minOk (ds : List D) : Bool := ds.all (fun x => ds.all fun y => PySem.W.alike x y) && ds.all (fun x => match x with
  | .none => false
  | _ => true) && decide (PyData.depthAll ds ≤ 60)
def minDD : List D → Option D
  | [.list (x :: xs)] => if minOk (x :: xs) = true then some (PySem.W.minD x xs) else none
  | _ => none
section
variable {prog : Program} {w : World} {A : Around} {E : Value → Shared → Prop} {s : Shared} {l : Addr} {its : List Value} {ns : List Int} {Q : Value → Shared → Prop}
theorem sum_tup (hh : A.handled = none) (hl : s.heap.IsTuple l its.toArray) (hi : IntsAre its ns)
    (h : ∀ h' tk t', (∀ b o, s.heap.get? b = some o → h'.get? b = some o) → Q (.int ns.sum t') { s with heap := h', toks := tk }) : wpAny (model prog w) A (call (.builtin "sum") [.ref l]) Q E s := by
  obtain ⟨xs, e⟩ := hi.allInts.items
  have hn : numsOf (intItems xs).toList = ns := by rw [← e]; exact hi.numsOf
  rw [nums_intItems] at hn
  rw [e] at hl
  refine PySem.call_sum_walkG (PySem.W.iter_tupleW (A := A.in1) hh hl fun s₂ es W st hfp hw hk => ?_)
  have hlt : l < s.heap.objs.size := by obtain ⟨_, e, _⟩ := hl; exact Heap.lt_size e
  refine ⟨_, _, _, _, _, _, numAt xs, rfl, Walks.tuple (A := A.in1) hh _ l (Nat.ne_of_lt hlt) (intItems xs), st, hfp, (fun _ _ => intItems_at), fun h' tk t' hk' => ?_⟩
  subst es
  have := h h' tk t' fun b o e => hk' b o (hw b o e) (hk b o e)
  have e2 : preSum (numAt xs) (intItems xs).size = ns.sum := by
    rw [show (intItems xs).size = xs.size by simp [intItems], preSum_eq, List.take_of_length_le (by simp), hn]
  rw [e2]
  exact this
end
section
variable {X : Cx} {Wx : WX}
theorem cr_sumD2 (hc : X.calm = true) : CallR X (.builtin "sum") (tVn X.K X.w sumD2) := by
  intro pins s σ H vs us Q I r h
  obtain ⟨W, ds, sm, rl, h⟩ := h
  unfold sumD2 at h
  split at h
  · exact cr_sumD hc pins s σ H vs us Q I r ⟨W, _, sm, rl, h⟩
  · rename_i xs
    obtain ⟨v, rfl, rv⟩ := rl.one
    simp only [Rep] at rv
    obtain ⟨a, zs, rfl, q, lr⟩ := rv
    cases e : intsD xs with
    | none => rw [e] at h; exact h.elim
    | some bs =>
      rw [e] at h
      have eu := intsD_rep lr e
      subst eu
      obtain ⟨its, rv, pl, _⟩ := I.tuple (Same.sqt sm q)
      rw [Vals.ref1 r]
      exact sum_tup (I.ok.hd hc) (show s.heap.IsTuple a its.toArray from pl) rv.ints fun h' tk t' hk => ⟨.int _, H, I.kept hk, ⟨_, rfl⟩, h.flat sm rfl⟩
  · exact h.elim
theorem cr_minDD (hc : X.calm = true) (hu : X.A.units + 64 < cLine) : CallR X (.builtin "min") (tVn X.K X.w minDD) := by
  intro pins s σ H vs us Q I r h
  obtain ⟨W, ds, sm, rl, h⟩ := h
  unfold minDD at h
  split at h
  · rename_i x xs
    split at h
    · rename_i c
      unfold minOk at c
      simp only [Bool.and_eq_true, List.all_eq_true, decide_eq_true_eq] at c
      obtain ⟨⟨c1, c2⟩, c3⟩ := c
      obtain ⟨v, rfl, rv⟩ := rl.one
      simp only [Rep] at rv
      obtain ⟨a, zs, rfl, q, lr⟩ := rv
      obtain ⟨its, r1, pl, hz⟩ := I.list (.of (sm _ _ q))
      rw [Vals.ref1 r]
      obtain ⟨as, ra⟩ := RepL.reads I sm _ _ _ lr r1
      refine PySem.W.min_list_data (I.ok.hd hc) pl.isList (by simpa using ra) ⟨c1, fun y hy e => by have := c2 y hy; rw [e] at this; cases this⟩ (by omega) fun i u h' tk bs hi hr hk => ?_
      obtain ⟨z, hzi, ru⟩ := vals_at (i := i) (u := u) r1 (by rw [← Array.getElem?_toList] at hi; simpa using hi)
      obtain ⟨d, hd⟩ : ∃ d, (x :: xs)[i]? = some d := by
        have := (List.getElem?_eq_some_iff.mp hzi).1
        rw [lr.len] at this
        exact ⟨_, List.getElem?_eq_getElem this⟩
      obtain ⟨z', hz', rz⟩ := lr.at hd
      rw [hzi] at hz'
      cases hz'
      obtain ⟨as', rd⟩ := Rep.reads I sm _ _ _ rz ru
      have ed := (reads_det (fun b o e _ => hk b o e) rd hr).1
      exact ⟨z, H, I.kept hk, ru, h.flat sm (by rw [ed]; exact rz)⟩
    · exact h.elim
  · exact h.elim
def rSetTI (K : PySem.W.Frag) (w : World) : List V → Hp → VK → Prop := fun xs H Q => ∃ (l : Addr) (ns : List Int), xs = [V.ref l] ∧ SqT K H l (ns.map V.int) ∧ ns.length ≤ 1000 ∧ ∀ p c, H p = none → c ≤ ns.length → Q (.ref p) (upd H p (SetO w p (fun j => decide (j ∈ ns)) c))
theorem cr_setTI (hc : X.calm = true) : CallR X (.type "set") (rSetTI X.K X.w) := by
  intro pins s σ H xs us Q I r h
  obtain ⟨l, ns, rfl, hl, hf, q⟩ := h
  rw [Vals.ref1 r]
  obtain ⟨its, rv, pl, hz⟩ := I.tuple hl
  refine call_set_tupI (P := X.prog) (w := X.w) ns (I.ok.hd hc) (show s.heap.IsTuple l its.toArray from pl) (by simpa using ints_of_vals rv) (by unfold scanBound; omega) fun h' tk c R hcn k => ?_
  exact ⟨.ref s.heap.objs.size, _, I.laid (t' := tk) k (Nat.le_refl _) (setO_new R), rfl, q _ c (I.hok.fresh (Nat.le_refl _)) hcn⟩
def sortSetTD : D → Option D
  | .tuple ds => match intsD ds with
    | some ns => if ds.length < 64 then some (.list ((setZ ns).map .int)) else none
    | none => none
  | _ => none
def xSortSetT (f : XF) : XF := fun env => (f env).bind fun r => liftO (sortSetTD r.1) r.2
theorem en_sortSetT {e : Expr} {f : XF} {p p2 q pos : Pos} (hc : X.calm = true) (hg : Gl X "sorted") (hm : X.mg "sorted" = none) (hg2 : Gl X "set") (hm2 : X.mg "set" = none) (he : EX X Wx e f)
    (hs : starEach [e] X.env = (false, eval e X.env) :: starEach [] X.env := by rfl) (hs2 : starEach [.Call (.Name "set" p2) [e] [] q] X.env = (false, eval (.Call (.Name "set" p2) [e] [] q) X.env) :: starEach [] X.env := by rfl) :
    EN X Wx (.Call (.Name "sorted" p) [.Call (.Name "set" p2) [e] [] q] [] pos) (xSortSetT f) := by
  have hset : PE X (.Call (.Name "set" p2) [e] [] q) (tCB (rSetTI X.K X.w) (tCons _ tNil)) := pe_callTy (cr_setTI hc) hg2 hm2 (by rfl) (pa_cons he pa_nil hs) (by decide) (by decide) hs (by rfl)
  refine PE.wk (pe_callB (L2.cr_sortedSet hc) hg hm (by rfl) (pa_cons hset pa_nil hs2) (by decide) (by decide) hs2 (by rfl)) ?_
  rintro σ H Q ⟨ρ, W, env, A, S, h⟩
  refine tN_then S h fun d W1 H1 env1 A1 v S1 F1 r1 h1 => ?_
  simp only at h1
  unfold sortSetTD at h1
  split at h1
  · rename_i d' ds
    simp only [Rep] at r1
    obtain ⟨a, vs, rfl, q1, l⟩ := r1
    split at h1
    · rename_i ns en
      split at h1
      · rename_i c
        have evs := intsD_rep l en
        subst evs
        have ln : ns.length = ds.length := by rw [← l.len, List.length_map]
        refine ⟨a, ns, rfl, Same.sqt S1.sub q1, by omega, fun b n hb hn => ?_⟩
        refine ⟨b, _, n, rfl, upd_same, by omega, fun ns' p' pw mm _ hp' => ?_⟩
        have e : ns' = setZ ns := setZ_eq pw fun k => by rw [mm k, decide_eq_true_eq]
        subst e
        have h2 := onW_of S1 h1
        have e2 : Ex W1 H1 W1 (upd H1 b (SetO X.w b (fun j => decide (j ∈ ns)) n)) := Ex.junk S1.sub hb
        have n2 : H1 p' = none := by
          by_cases z : p' = b
          · rw [z]; exact hb
          · rwa [upd_ne z] at hp'
        exact h2 W1 _ p' (e2.trans (Ex.junk (p := p') (o := .lst ((setZ ns).map V.int)) e2.sub hp')) (S1.sub.free n2) ⟨_, upd_same, rep_ints _⟩ n2
      · exact h1.elim
    · exact h1.elim
  · exact h1.elim
end
end DP
set_option Elab.async false
set_option linter.all false
set_option maxRecDepth 100000
/-! DP, part 48: a dict of one's own whose values are dicts of one's own. -/
namespace DP
open PySem PySem.Spec PyProof.Rows L2

section
variable {K : PySem.W.Frag} {w : World} {ρ : Nat → Addr} {W W' H H' : Hp} {env : Ev} {σ : L2.St} {A : List (List Addr)}
theorem NdR.len : ∀ {kvs : List (D × List (D × D))} {es : List DictEntry} {qs : List Addr}, NdR K w W H kvs es qs → es.length = kvs.length ∧ qs.length = kvs.length
  | [], _, _, ⟨h1, h2⟩ => by subst h1 h2; exact ⟨rfl, rfl⟩
  | (k, m) :: r, _, _, ⟨e, q, es', qs', e1, e2, _, _, _, _, _, t⟩ => by
    subst e1 e2
    obtain ⟨a, b⟩ := NdR.len t
    exact ⟨congrArg (· + 1) a, congrArg (· + 1) b⟩
theorem NdR.at : ∀ {kvs : List (D × List (D × D))} {es : List DictEntry} {qs : List Addr} {j : Nat} {p : D × List (D × D)}, NdR K w W H kvs es qs → kvs[j]? = some p → ∃ e q, es[j]? = some e ∧ qs[j]? = some q ∧ e.val = Value.ref q ∧ Own K w W H (.dict p.2) q
  | [], _, _, _, _, _, h => by simp at h
  | (k, m) :: r, _, _, 0, p, ⟨e, q, es', qs', e1, e2, _, _, h4, _, o, _⟩, h => by
    subst e1 e2
    cases h
    exact ⟨e, q, rfl, rfl, h4, o⟩
  | (k, m) :: r, _, _, j + 1, p, ⟨e, q, es', qs', e1, e2, _, _, _, _, _, t⟩, h => by
    subst e1 e2
    obtain ⟨e', q', h1, h2, h3, h4⟩ := NdR.at (j := j) t (by simpa using h)
    exact ⟨e', q', by simpa using h1, by simpa using h2, h3, h4⟩
theorem NdR.snoc : ∀ {kvs : List (D × List (D × D))} {es : List DictEntry} {qs : List Addr} {k : D} {e : DictEntry} {q : Addr} {m : List (D × D)}, NdR K w W H kvs es qs → (∃ kk, keyD k = some kk ∧ kk.depth ≤ 8 ∧ e.hash = kk.hash w) → (∃ x, RelV x e.key ∧ Rep K w W k x) → e.val = Value.ref q → W q = none → Own K w W H (.dict m) q → NdR K w W H (kvs ++ [(k, m)]) (es ++ [e]) (qs ++ [q])
  | [], _, _, k, e, q, m, ⟨h1, h2⟩, a, b, c, n, o => by
    subst h1 h2
    exact ⟨e, q, [], [], rfl, rfl, a, b, c, n, o, rfl, rfl⟩
  | (k', m') :: r, _, _, k, e, q, m, ⟨e0, q0, es', qs', e1, e2, f1, f2, f3, f4, f5, t⟩, a, b, c, n, o => by
    subst e1 e2
    exact ⟨e0, q0, es' ++ [e], qs' ++ [q], rfl, rfl, f1, f2, f3, f4, f5, NdR.snoc t a b c n o⟩
theorem NdR.set : ∀ {kvs : List (D × List (D × D))} {es : List DictEntry} {qs : List Addr} {j : Nat} {k : D} {m m' : List (D × D)} {q : Addr}, NdR K w W H kvs es qs → kvs[j]? = some (k, m) → qs[j]? = some q → qs.Nodup → (∀ b, b ≠ q → H' b = H b) → Own K w W H' (.dict m') q → NdR K w W H' (kvs.modify j fun p => (p.1, m')) es qs
  | [], _, _, _, _, _, _, _, _, h, _, _, _, _ => by simp at h
  | (k0, m0) :: r, _, _, 0, k, m, m', q, ⟨e0, q0, es', qs', e1, e2, f1, f2, f3, f4, f5, t⟩, h, hq, nd, hk, o => by
    subst e1 e2
    cases h
    obtain rfl : q0 = q := Option.some.inj hq
    rw [List.nodup_cons] at nd
    rw [List.modify_zero_cons]
    refine ⟨e0, q0, es', qs', rfl, rfl, f1, f2, f3, f4, o, t.keep (Same.refl _) fun p hp => ⟨hk p fun z => nd.1 (z ▸ hp), (t.own p hp).1⟩⟩
  | (k0, m0) :: r, _, _, j + 1, k, m, m', q, ⟨e0, q0, es', qs', e1, e2, f1, f2, f3, f4, f5, t⟩, h, hq, nd, hk, o => by
    subst e1 e2
    rw [List.nodup_cons] at nd
    have hq' : qs'[j]? = some q := by simpa using hq
    rw [List.modify_succ_cons]
    exact ⟨e0, q0, es', qs', rfl, rfl, f1, f2, f3, f4, f5.mono (Same.refl _) (hk q0 fun z => nd.1 (z ▸ List.mem_of_getElem? hq')), NdR.set t (by simpa using h) hq' nd.2 hk o⟩
/-- the world in which the dicts at qs are frozen -/
theorem NdR.lent {kvs : List (D × List (D × D))} {es : List DictEntry} {qs : List Addr} (r : NdR K w W H kvs es qs) (sub : Same W H) : ∃ W1, Same W W1 ∧ Same W1 H ∧ RepKV K w W1 (kvs.map fun p => (p.1, .dict p.2)) es := by
  classical
  have sm : Same W (fun b => if b ∈ qs then H b else W b) := fun b u q => by
    show (if b ∈ qs then H b else W b) = some u
    rw [if_neg fun z => by rw [(r.own b z).1] at q; cases q]
    exact q
  refine ⟨fun b => if b ∈ qs then H b else W b, sm, fun b u q => ?_, r.rep sm fun p hp => if_pos hp⟩
  by_cases z : b ∈ qs
  · simp only [if_pos z] at q; exact q
  · simp only [if_neg z] at q; exact sub _ _ q
end

section
variable {X : Cx} {Wx : WX}
/-! ### reading the inner dict -/
def rIxNd (X : Cx) : R2 := fun x y H Q => ∃ W a es ep k, ∃ (qs : List Addr) (j : Nat) (q : Addr) (kvs : List (D × List (D × D))) (p : D × List (D × D)), x = .ref a ∧ Same W H ∧ Rep X.K X.w W k y ∧ keyOk k = true ∧ H a = some (dicO a es ep) ∧ NdR X.K X.w W H kvs es.toList qs ∧ (kvs.map fun p => keyD p.1).Nodup ∧ kvs[j]? = some p ∧ keyD p.1 = keyD k ∧ qs[j]? = some q ∧ Q (.ref q) H
theorem ix_nd (hu : X.A.units + 64 < cLine) : IxR X (rIxNd X) := by
  intro value slice pins s σ H x y v u Q I rx ry h hs
  obtain ⟨W, a, es, ep, k, qs, j, q, kvs, p, rfl, sm, rk, ok, hH, nr, nd, hp, ek0, hq, hQ⟩ := h
  cases rx
  obtain ⟨kk, k1, k2⟩ := keyOk_iff ok
  obtain ⟨⟨h1, h2, h3⟩, _⟩ := I.hok a _ hH
  obtain ⟨W1, s1, s2, kv⟩ := nr.lent sm
  have nd' : ((kvs.map fun p => (p.1, PyData.dict p.2)).map fun p => keyD p.1).Nodup := by rw [List.map_map]; exact nd
  obtain ⟨ks, ek, N⟩ := RepKV.ents I s2 kv nd'
  have hj : ks[j]? = some kk := by
    have := congrArg (fun l => l[j]?) ek
    simp only [List.getElem?_map, hp, Option.map_some, ek0, k1] at this
    cases hk : ks[j]? with
    | none => rw [hk] at this; cases this
    | some z => rw [hk] at this; cases this; rfl
  obtain ⟨e, q', e1, e2, e3, _⟩ := nr.at hp
  rw [hq] at e2
  cases e2
  have he : es[j]? = some e := by rw [← Array.getElem?_toList]; exact e1
  exact subscriptTail_builtinR (x := e.val) (dobj_type h3) F.slot_dict_getitem.lookup (dgetItem (Q := fun r s' => r = e.val ∧ EP X pins σ Q r s') N (by omega) h3 (Rep.key I sm rk ry k1) k2 hj he fun t => ⟨rfl, .ref q, H, I.tok _, e3, hQ⟩) hs

/-! ### rows[k] = {} -/
def tSetNew (X : Cx) (tv td tk : TE) : TS := fun D σ H => tv σ H fun v H1 => td σ H1 fun o H2 => tk σ H2 fun k H3 => ∃ W a es ep dk kvs q, o = .ref a ∧ v = .ref q ∧ Same W H3 ∧ Rep X.K X.w W dk k ∧ keyOk dk = true ∧ H3 a = some (dicO a es ep) ∧ RepKV X.K X.w W kvs es.toList ∧ (kvs.map fun p => keyD p.1).Nodup ∧ kvs.any (kIs dk) = false ∧ kvs.length < sizeLine ∧
  ∀ (e : DictEntry) (es' : Array DictEntry) ep', (∃ kk, keyD dk = some kk ∧ kk.depth ≤ 8 ∧ e.hash = kk.hash X.w) → RelV k e.key → e.val = Value.ref q → es'.toList = es.toList ++ [e] → D.nx σ (upd H3 a (dicO a es' ep'))
theorem ps_setNew {o i value : Expr} {pos' pos : Pos} {tv td tk : TE} (hu : X.A.units + 64 < cLine) (ho : PE X o td) (hi : PE X i tk) (hv : PE X value tv) (hs : swapsWith value (some (.Subscript o i pos')) pos.line X.env = pure false) : PS X (.Assign [.Subscript o i pos'] value pos) (tSetNew X tv td tk) := by
  refine ⟨fun pins s σ H D I h => ?_⟩
  refine wpAny_Assign_Subscript (thn (hv.run pins s σ H _ I h) fun r s1 ⟨v, H1, I1, rv, q1⟩ => thn (ho.run pins s1 σ H1 _ I1 q1) fun u s2 ⟨x, H2, I2, rx, q2⟩ => thn (hi.run pins s2 σ H2 _ I2 q2) fun iv s3 ⟨y, H3, I3, ry, W, a, es, ep, dk, kvs, q, ex, evq, sm, rk, ok, hH, kv, nd, hno, hlt, fin⟩ => ?_) hs
  subst ex evq
  obtain rfl : u = Value.ref a := rx
  obtain rfl : r = Value.ref q := rv
  obtain ⟨kk, k1, k2⟩ := keyOk_iff ok
  obtain ⟨⟨h1, h2, h3⟩, _⟩ := I3.hok a _ hH
  obtain ⟨ks, ek, N⟩ := RepKV.ents I3 sm kv nd
  refine dset N (by omega) h3 h2 (Rep.key I3 sm rk ry k1) k2 fun h' es' ep' r' t hhit e1 e2 e3 => ?_
  cases r' with
  | some j =>
    obtain ⟨_, _, _, _, z⟩ := hit_some ek nd k1 hhit
    rw [hno] at z; cases z
  | none =>
    have l0 := kv.len
    rw [Array.length_toList] at l0
    have hz' : es'.size ≤ sizeLine := by
      have l3 : es'.toList.length = es'.size := Array.length_toList
      rw [e3] at l3
      simp only [putE, List.length_append, List.length_cons, List.length_nil, Array.length_toList] at l3
      omega
    exact ⟨σ, _, d_write (t' := t) I3 (by rw [hH]; exact True.intro) e2 ⟨_, e1⟩ (dicO_new h1 hz' e1), fin _ es' ep' ⟨kk, k1, k2, rfl⟩ ry rfl e3⟩
def sNdNew (i a : Nat) : SF := fun env => match env[a]? with
  | some (.fz k) => (match env[i]? with
    | some (.ow none (.dict [])) => if keyOk k = true then .ok (.nx, env.set i (.nd [(k, [])])) else .bad
    | some (.nd kvs) => if keyOk k = true ∧ kvs.any (fun p => decide (keyD p.1 = keyD k)) = false ∧ kvs.length < sizeLine then .ok (.nx, env.set i (.nd (kvs ++ [(k, [])]))) else .bad
    | _ => .bad)
  | _ => .bad
theorem SR.nd_put {ρ : Nat → Addr} {W H : Hp} {env : Ev} {σ : L2.St} {A : List (List Addr)} (S : SR X.K X.w ρ W H env σ A) {i : Nat} {p q : Addr} {l qs : List Addr} {o : HO} {kvs : List (D × List (D × D))} {es : Array DictEntry} {ep : Nat} (hp : σ[i]? = some (some (.ref p))) (hl : A[i]? = some l) (hpl : p ∈ l) (hql : ∀ b ∈ qs, b ∈ l) (hW : W p = none) (hqW : W q = none) (hqA : ¬ ownd A q)
    (ho : o = dicO p es ep) (hr : NdR X.K X.w W (upd H p o) kvs es.toList (qs ++ [q])) (nd : (kvs.map fun p => keyD p.1).Nodup) (nn : (p :: (qs ++ [q])).Nodup) : SR X.K X.w ρ W (upd H p o) (env.set i (.nd kvs)) σ (A.set i (p :: (qs ++ [q]))) := by
  have sub : Same W (upd H p o) := fun b u z => by rw [upd_ne (ne_of_none z hW)]; exact S.sub b u z
  have hin : ∀ b ∈ p :: (qs ++ [q]), b = q ∨ b ∈ l := fun b hb => by
    rcases List.mem_cons.mp hb with z | z
    · exact .inr (z ▸ hpl)
    · rcases List.mem_append.mp z with z | z
      · exact .inr (hql b z)
      · exact .inl (List.mem_singleton.mp z)
  have S1 : SR X.K X.w ρ W (upd H p o) (env.set i .no) (σ.set i (some (.ref p))) (A.set i []) := (S.setNo i _).keep (Same.refl _) sub fun b hb => by
    obtain ⟨j, m, hj, hm⟩ := hb
    rcases at_set hj with ⟨_, e⟩ | ⟨e1, e2⟩
    · subst e; cases hm
    · exact ⟨upd_ne fun z => e1 (S.inj j i m l p e2 hl (z ▸ hm) hpl), (S.own ⟨j, m, e2, hm⟩).1⟩
  have hil : i < σ.length := (List.getElem?_eq_some_iff.mp hp).1
  have es' : σ.set i (some (V.ref p)) = σ := by
    refine List.ext_getElem? fun j => ?_
    by_cases hj : j = i
    · subst hj; rw [List.getElem?_set_self hil, hp]
    · rw [List.getElem?_set_ne (Ne.symm hj)]
  rw [es'] at S1
  have S2 := S1.put i (s := .nd kvs) (v := some (.ref p)) (m := p :: (qs ++ [q])) ⟨p, qs ++ [q], es, ep, rfl, rfl, hW, by rw [upd_same, ho], hr, nd, nn⟩ fun j m b hj hm hb hb2 => by
    rcases at_set hm with ⟨z, _⟩ | ⟨_, z⟩
    · exact hj z
    · rcases hin b hb2 with y | y
      · exact hqA (y ▸ ⟨j, m, z, hb⟩)
      · exact hj (S.inj j i m l b z hl hb y)
  rw [es', List.set_set, List.set_set] at S2
  exact S2
theorem fr_put {W H W1 H1 : Hp} {P P1 P2 : Addr → Prop} {p q : Addr} {o : HO} (F : Fr W H P W1 H1 P1) (hp : P1 p) (hP : ∀ b, P2 b → b = q ∨ P1 b) (hq : P q ∨ H q = none) : Fr W H P W1 (upd H1 p o) P2 := by
  refine ⟨F.ext, fun b u z hn => ?_, F.new, fun b hb => ?_⟩
  · rw [upd_ne fun y => ?_]
    · exact F.keep b u z hn
    · subst y
      rcases F.own b hp with y | y
      · exact hn y
      · rw [y] at z; cases z
  · rcases hP b hb with y | y
    · exact y ▸ hq
    · exact F.own b y
theorem es_ndNew {i a : Nat} {x y : Str} {px py pos' dpos pos : Pos} (hu : X.A.units + 64 < cLine) (hx : PE X (.Name x px) (tVar i)) (hy : PE X (.Name y py) (tVar a)) (hs : swapsWith (.Dict [] [] dpos) (some (.Subscript (.Name x px) (.Name y py) pos')) pos.line X.env = pure false := by rfl) :
    ES X Wx (.Assign [.Subscript (.Name x px) (.Name y py) pos'] (.Dict [] [] dpos) pos) (sNdNew i a) := by
  refine PS.wk (ps_setNew hu hx hy (en_dict0 (Wx := Wx)) hs) ?_
  rintro D σ H ⟨ρ, W, env, A, S, h⟩
  refine ⟨ρ, W, env, A, S, ?_⟩
  show ∀ W1 H1 A1 q, SR X.K X.w ρ W1 H1 env σ A1 → Fr W H (ownd A) W1 H1 (ownd A1) → W1 q = none → Own X.K X.w W1 H1 (.dict []) q → ¬ ownd A1 q → (ownd A q ∨ H q = none) → _
  intro W1 H1 A1 q S1 F1 n1 o1 nq z
  unfold sNdNew at h
  split at h
  · rename_i k ea
    obtain ⟨va, la, ha1, ha2, ha3⟩ := S1.at ea
    obtain ⟨_, ka, rfl, rk⟩ := ha3
    split at h
    · rename_i ei
      obtain ⟨v, l, g1, g2, p, rfl, rfl, g3, ⟨es, ep, g4, g5, g6⟩, _⟩ := S1.at ei
      split at h
      · rename_i ok
        refine ⟨.ref p, g1, ka, ha1, W1, p, es, ep, k, [], q, rfl, rfl, S1.sub, rk, ok, g4, g5, g6, rfl, by rw [sizeLine_eq]; decide, fun e es' ep' e1 e2 e3 e4 => ?_⟩
        have qp : q ≠ p := fun y => nq (y ▸ ⟨i, [p], g2, by simp⟩)
        simp only [RepKV] at g5
        rw [g5, List.nil_append] at e4
        have o2 : Own X.K X.w W1 (upd H1 p (dicO p es' ep')) (.dict []) q := o1.mono (Same.refl _) (upd_ne qp)
        have S2 := S1.nd_put (qs := []) (kvs := [(k, [])]) (o := dicO p es' ep') g1 g2 (by simp) (fun _ h => nomatch h) g3 n1 nq rfl (by rw [e4]; exact ⟨e, q, [], [], rfl, rfl, e1, ⟨ka, e2, rk⟩, e3, n1, o2, rfl, rfl⟩) (by simp) (by simp [Ne.symm qp])
        refine h W1 _ _ σ S2 (fr_put F1 ⟨i, [p], g2, by simp⟩ (fun b hb => ?_) z)
        rcases ownd_put hb with y | y
        · simp only [List.nil_append, List.mem_cons, List.not_mem_nil, or_false] at y
          rcases y with y | y
          · exact .inr (y ▸ ⟨i, [p], g2, by simp⟩)
          · exact .inl y
        · exact .inr y
      · exact h.elim
    · rename_i kvs ei
      obtain ⟨v, l, g1, g2, p, qs, es, ep, rfl, rfl, g3, g4, g5, g6, g7⟩ := S1.at ei
      split at h
      · rename_i c
        obtain ⟨ok, hno, hlt⟩ := c
        obtain ⟨W2, s1, s2, kv⟩ := g5.lent S1.sub
        refine ⟨.ref p, g1, ka, ha1, W2, p, es, ep, k, kvs.map fun p => (p.1, .dict p.2), q, rfl, rfl, s2, Rep.mono s1 _ _ rk, ok, g4, kv, by rw [List.map_map]; exact g6, by rw [List.any_map]; exact hno, by rw [List.length_map]; exact hlt, fun e es' ep' e1 e2 e3 e4 => ?_⟩
        have qin : ∀ b ∈ p :: qs, b ≠ q := fun b hb y => nq (y ▸ ⟨i, p :: qs, g2, hb⟩)
        have qp : q ≠ p := Ne.symm (qin p List.mem_cons_self)
        rw [List.nodup_cons] at g7
        have o2 : Own X.K X.w W1 (upd H1 p (dicO p es' ep')) (.dict []) q := o1.mono (Same.refl _) (upd_ne qp)
        have r2 : NdR X.K X.w W1 (upd H1 p (dicO p es' ep')) kvs es.toList qs := g5.keep (Same.refl _) fun b hb => ⟨upd_ne fun y => g7.1 (y ▸ hb), (g5.own b hb).1⟩
        have S2 := S1.nd_put (qs := qs) (kvs := kvs ++ [(k, [])]) (o := dicO p es' ep') g1 g2 (by simp) (fun b hb => List.mem_cons_of_mem _ hb) g3 n1 nq rfl (by rw [e4]; exact r2.snoc e1 ⟨ka, e2, rk⟩ e3 n1 o2) (by
          rw [List.map_append, List.nodup_append]
          refine ⟨g6, by simp, fun x hx y hy => ?_⟩
          simp only [List.map_cons, List.map_nil, List.mem_singleton] at hy
          subst hy
          rintro rfl
          obtain ⟨p', hp', e⟩ := List.mem_map.mp hx
          rw [List.any_eq_false] at hno
          exact hno p' hp' (decide_eq_true e)) (by
          rw [List.nodup_cons, List.nodup_append]
          refine ⟨fun hb => ?_, g7.2, by simp, fun x hx y hy e => ?_⟩
          · rcases List.mem_append.mp hb with y | y
            · exact g7.1 y
            · exact qp (List.mem_singleton.mp y).symm
          · rw [List.mem_singleton.mp hy] at e
            exact qin x (List.mem_cons_of_mem _ hx) e)
        refine h W1 _ _ σ S2 (fr_put F1 ⟨i, p :: qs, g2, by simp⟩ (fun b hb => ?_) z)
        rcases ownd_put hb with y | y
        · rcases List.mem_cons.mp y with y | y
          · exact .inr ⟨i, p :: qs, g2, by simp [y]⟩
          · rcases List.mem_append.mp y with y | y
            · exact .inr ⟨i, p :: qs, g2, List.mem_cons_of_mem _ y⟩
            · exact .inl (List.mem_singleton.mp y)
        · exact .inr y
      · exact h.elim
    · exact h.elim
  · exact h.elim

/-! ### rows[a][b] = v -/
def sNdSet (i a b : Nat) (fv : XF) : SF := fun env => (fv env).bind fun v => match v.2[a]?, v.2[b]? with
  | some (.fz k1), some (.fz k2) => (match v.2[i]? with
    | some (.nd kvs) => (match kvs.find? (fun p => decide (keyD p.1 = keyD k1)) with
      | some p => if keyOk k1 = true ∧ keyOk k2 = true ∧ p.2.length < sizeLine then .ok (.nx, v.2.set i (.nd (kvs.map fun q => if keyD q.1 = keyD k1 then (q.1, dPut p.2 k2 v.1) else q))) else .bad
      | none => .bad)
    | _ => .bad)
  | _, _ => .bad
theorem es_ndSet {i a b : Nat} {x y z : Str} {px py pz pos1 pos2 pos : Pos} {value : Expr} {fv : XF} (hu : X.A.units + 64 < cLine) (hx : PE X (.Name x px) (tVar i)) (hy : PE X (.Name y py) (tVar a)) (hz : PE X (.Name z pz) (tVar b)) (hv : EX X Wx value fv) (hpl : PlainIx (.Name y py) := by intro _ _; rfl)
    (hs : swapsWith value (some (.Subscript (.Subscript (.Name x px) (.Name y py) pos1) (.Name z pz) pos2)) pos.line X.env = pure false := by rfl) :
    ES X Wx (.Assign [.Subscript (.Subscript (.Name x px) (.Name y py) pos1) (.Name z pz) pos2] value pos) (sNdSet i a b fv) := by
  refine PS.wk (ps_setRaw hu (pe_ix (ix_nd hu) hx hy hpl) hz hv hs) ?_
  rintro D σ H ⟨ρ, W, env, A, S, h⟩
  refine tS_then S h fun d W1 H1 env1 A1 u S1 F1 r1 h1 => ?_
  simp only at h1
  split at h1
  · rename_i k1 k2 ea eb
    obtain ⟨_, _, ha1, _, _, ka, rfl, rk1⟩ := S1.at ea
    obtain ⟨_, _, hb1, _, _, kb, rfl, rk2⟩ := S1.at eb
    split at h1
    · rename_i kvs ei
      obtain ⟨v, l, g1, g2, p, qs, es, ep, rfl, rfl, g3, g4, g5, g6, g7⟩ := S1.at ei
      split at h1
      · rename_i pr hf
        split at h1
        · rename_i c
          obtain ⟨ok1, ok2, hlt⟩ := c
          have hmem := List.mem_of_find?_eq_some hf
          have hk : keyD pr.1 = keyD k1 := by simpa using List.find?_some hf
          obtain ⟨j, hj⟩ := List.getElem?_of_mem hmem
          obtain ⟨e, q, e1, e2, e3, ⟨ies, iep, o1, o2, o3⟩⟩ := g5.at hj
          have qA : ownd A1 q := ⟨i, p :: qs, g2, List.mem_cons_of_mem _ (List.mem_of_getElem? e2)⟩
          rw [List.nodup_cons] at g7
          have qp : q ≠ p := fun y => g7.1 (y ▸ List.mem_of_getElem? e2)
          refine ⟨.ref p, g1, ka, ha1, W1, p, es, ep, k1, qs, j, q, kvs, pr, rfl, S1.sub, rk1, ok1, g4, g5, g6, hj, hk, e2, kb, hb1, W1, q, ies, iep, k2, d, pr.2, rfl, S1.sub, rk2, ok2, r1, o1, o2, o3, hlt, fun es' ep' kv' nd' => ?_⟩
          have hW : W1 q = none := (g5.own q (List.mem_of_getElem? e2)).1
          have sub : Same W1 (upd H1 q (dicO q es' ep')) := fun b u z => by rw [upd_ne (ne_of_none z hW)]; exact S1.sub b u z
          have em : (kvs.map fun q => if keyD q.1 = keyD k1 then (q.1, dPut pr.2 k2 d) else q) = kvs.modify j fun p => (p.1, dPut pr.2 k2 d) := by
            have := map_modify (fun p : PyData × List (PyData × PyData) => keyD p.1) (fun p => (p.1, dPut pr.2 k2 d)) g6 hj
            simp only [hk, decide_eq_true_eq] at this
            exact this
          have r2 : NdR X.K X.w W1 (upd H1 q (dicO q es' ep')) (kvs.modify j fun p => (p.1, dPut pr.2 k2 d)) es.toList qs := g5.set (k := pr.1) (m := pr.2) hj e2 g7.2 (fun b hb => upd_ne hb) ⟨es', ep', upd_same, kv', nd'⟩
          have nd2 : ((kvs.modify j fun p => (p.1, dPut pr.2 k2 d)).map fun p => keyD p.1) = kvs.map fun p => keyD p.1 := by
            rw [← em, List.map_map]
            refine List.map_congr_left fun x _ => ?_
            simp only [Function.comp]
            split <;> rfl
          have S2 : SR X.K X.w ρ W1 (upd H1 q (dicO q es' ep')) (env1.set i (.nd (kvs.map fun q => if keyD q.1 = keyD k1 then (q.1, dPut pr.2 k2 d) else q))) σ A1 := by
            rw [em]
            refine ⟨sub, by simp [S1.le], S1.la, fun j' s v l j1 j2 j3 => ?_, S1.inj⟩
            rcases at_set j1 with ⟨f1, f2⟩ | ⟨f1, f2⟩
            · subst f1 f2
              rw [g1] at j2
              cases j2
              rw [g2] at j3
              cases j3
              exact ⟨p, qs, es, ep, rfl, rfl, g3, (upd_ne (Ne.symm qp)).trans g4, r2, by rw [nd2]; exact g6, List.nodup_cons.mpr g7⟩
            · refine (S1.slot j' s v l f2 j2 j3).keep (Same.refl _) fun b' hb' => ⟨upd_ne fun y => f1 (S1.inj j' i l (p :: qs) b' j3 g2 hb' (by rw [y]; exact List.mem_cons_of_mem _ (List.mem_of_getElem? e2))), (S1.own ⟨j', l, j3, hb'⟩).1⟩
          have F2 : Fr W1 H1 (ownd A1) W1 (upd H1 q (dicO q es' ep')) (ownd A1) := ⟨Same.refl _, fun b' u' z hn => by rw [upd_ne (fun y => hn (by rw [y]; exact qA))]; exact z, fun _ z1 z2 => absurd z2 z1, fun _ z => .inl z⟩
          exact h1 W1 _ A1 σ S2 F2
        · exact h1.elim
      · exact h1.elim
    · exact h1.elim
  · exact h1.elim

/-! ### read as a whole: frozen from then on -/
def xVarN (i : Nat) : XF := fun env => match env[i]? with
  | some (.fz d) => .ok (d, env)
  | some (.nd kvs) => .ok (.dict (kvs.map fun p => (p.1, .dict p.2)), env.set i (.fz (.dict (kvs.map fun p => (p.1, .dict p.2)))))
  | _ => .bad
theorem ex_varN {i : Nat} {x : Str} {pos : Pos} (h : PE X (.Name x pos) (tVar i)) : EX X Wx (.Name x pos) (xVarN i) := by
  refine PE.wk h ?_
  rintro σ H Q ⟨ρ, W, env, A, S, h⟩
  unfold xVarN at h
  split at h
  · rename_i d e
    obtain ⟨v, l, h1, h2, _, y, rfl, r⟩ := S.at e
    exact ⟨y, h1, h W H A y S (Fr.refl _ _ _) r⟩
  · rename_i kvs e
    obtain ⟨v, l, h1, h2, p, qs, es, ep, rfl, rfl, q3, q4, q5, q6, q7⟩ := S.at e
    classical
    have sm : Same W (fun b => if b ∈ p :: qs then H b else W b) := fun b u q => by
      show (if b ∈ p :: qs then H b else W b) = some u
      rw [if_neg fun z => by rw [(S.own ⟨i, p :: qs, h2, z⟩).1] at q; cases q]
      exact q
    have sb : Same (fun b => if b ∈ p :: qs then H b else W b) H := fun b u q => by
      by_cases z : b ∈ p :: qs
      · simp only [if_pos z] at q; exact q
      · simp only [if_neg z] at q; exact S.sub _ _ q
    have hin : ∀ b ∈ p :: qs, (fun b => if b ∈ p :: qs then H b else W b) b = H b := fun b hb => if_pos hb
    have r : Rep X.K X.w (fun b => if b ∈ p :: qs then H b else W b) (.dict (kvs.map fun p => (p.1, .dict p.2))) (.ref p) := by
      simp only [Rep]
      exact ⟨p, es, ep, rfl, (hin p List.mem_cons_self).trans q4, q5.rep sm fun b hb => hin b (List.mem_cons_of_mem _ hb), by rw [List.map_map]; exact q6⟩
    generalize hW : (fun b => if b ∈ p :: qs then H b else W b) = W1 at sm sb r
    have out : ∀ b, b ∉ p :: qs → W1 b = W b := fun b hb => by rw [← hW]; exact if_neg hb
    refine ⟨.ref p, h1, ?_⟩
    have hl : i < σ.length := (List.getElem?_eq_some_iff.mp h1).1
    have es' : σ.set i (some (V.ref p)) = σ := by
      refine List.ext_getElem? fun j => ?_
      by_cases hj : j = i
      · subst hj; rw [List.getElem?_set_self hl, h1]
      · rw [List.getElem?_set_ne (Ne.symm hj)]
    have S2 : SR X.K X.w ρ W1 H (env.set i .no) (σ.set i (some (.ref p))) (A.set i []) := (S.setNo i _).keep sm sb fun b hb => by
      have nb : b ∉ p :: qs := fun z => by
        obtain ⟨j, m, hj, hm⟩ := hb
        rcases at_set hj with ⟨_, e⟩ | ⟨e1, e2⟩
        · subst e; cases hm
        · exact e1 (S.inj j i m (p :: qs) b e2 h2 hm z)
      exact ⟨rfl, (out b nb).trans (S.own (ownd_nil hb)).1⟩
    rw [es'] at S2
    have S3 := S2.setFz i r
    rw [es', List.set_set, List.set_set] at S3
    refine h W1 H _ _ S3 ⟨sm, fun _ _ q _ => q, fun b h5 h6 => ?_, fun b hb => .inl (ownd_nil hb)⟩ r
    by_cases hb : b ∈ p :: qs
    · exact .inl ⟨i, _, h2, hb⟩
    · rw [out b hb] at h5; exact absurd h6 h5
  · exact h.elim
end
end DP
set_option Elab.async false
set_option linter.all false
set_option maxRecDepth 100000
/-! DP, part 49: sorted(set(xs)) of a list or a tuple of ints. -/
namespace DP
open PySem PySem.Spec PyProof.Rows L2

def sortSetA : D → Option D
  | .list ds => match intsD ds with
    | some ns => if ds.length < 64 then some (.list ((setZ ns).map .int)) else none
    | none => none
  | .tuple ds => match intsD ds with
    | some ns => if ds.length < 64 then some (.list ((setZ ns).map .int)) else none
    | none => none
  | _ => none
def xSortSetA (f : XF) : XF := fun env => (f env).bind fun r => liftO (sortSetA r.1) r.2
section
variable {X : Cx} {Wx : WX}
theorem en_sortSetA {e : Expr} {f : XF} {p p2 q pos : Pos} (hc : X.calm = true) (hg : Gl X "sorted") (hm : X.mg "sorted" = none) (hg2 : Gl X "set") (hm2 : X.mg "set" = none) (he : EX X Wx e f)
    (hs : starEach [e] X.env = (false, eval e X.env) :: starEach [] X.env := by rfl) (hs2 : starEach [.Call (.Name "set" p2) [e] [] q] X.env = (false, eval (.Call (.Name "set" p2) [e] [] q) X.env) :: starEach [] X.env := by rfl) :
    EN X Wx (.Call (.Name "sorted" p) [.Call (.Name "set" p2) [e] [] q] [] pos) (xSortSetA f) := by
  have hset : PE X (.Call (.Name "set" p2) [e] [] q) (tCB _ (tCons _ tNil)) := pe_callTy (CallR.or (cr_setLI hc) (cr_setTI hc)) hg2 hm2 (by rfl) (pa_cons he pa_nil hs) (by decide) (by decide) hs (by rfl)
  refine PE.wk (pe_callB (L2.cr_sortedSet hc) hg hm (by rfl) (pa_cons hset pa_nil hs2) (by decide) (by decide) hs2 (by rfl)) ?_
  rintro σ H Q ⟨ρ, W, env, A, S, h⟩
  refine tN_then S h fun d W1 H1 env1 A1 v S1 F1 r1 h1 => ?_
  simp only at h1
  have fin : ∀ (a : Addr) (ns : List Int), ns.length < 64 → onW X.K X.w W1 H1 (some (.list ((setZ ns).map .int))) Q → ∀ (b : Addr) (n : Nat), H1 b = none → n ≤ ns.length → L2.rSortedSet X.w [V.ref b] (upd H1 b (SetO X.w b (fun j => decide (j ∈ ns)) n)) Q := by
    intro a ns c h2 b n hb hn
    refine ⟨b, _, n, rfl, upd_same, by omega, fun ns' p' pw mm _ hp' => ?_⟩
    have e : ns' = setZ ns := setZ_eq pw fun k => by rw [mm k, decide_eq_true_eq]
    subst e
    have e2 : Ex W1 H1 W1 (upd H1 b (SetO X.w b (fun j => decide (j ∈ ns)) n)) := Ex.junk S1.sub hb
    have n2 : H1 p' = none := by
      by_cases z : p' = b
      · rw [z]; exact hb
      · rwa [upd_ne z] at hp'
    exact h2 W1 _ p' (e2.trans (Ex.junk (p := p') (o := .lst ((setZ ns).map V.int)) e2.sub hp')) (S1.sub.free n2) ⟨_, upd_same, rep_ints _⟩ n2
  unfold sortSetA at h1
  split at h1
  · rename_i d' ds
    simp only [Rep] at r1
    obtain ⟨a, vs, rfl, q1, l⟩ := r1
    split at h1
    · rename_i ns en
      split at h1
      · rename_i c
        have evs := intsD_rep l en
        subst evs
        have ln : ns.length = ds.length := by rw [← l.len, List.length_map]
        exact .inl ⟨a, ns, rfl, .of (S1.sub _ _ q1), by omega, fun b n hb hn => fin a ns (by omega) (onW_of S1 h1) b n hb hn⟩
      · exact h1.elim
    · exact h1.elim
  · rename_i d' ds
    simp only [Rep] at r1
    obtain ⟨a, vs, rfl, q1, l⟩ := r1
    split at h1
    · rename_i ns en
      split at h1
      · rename_i c
        have evs := intsD_rep l en
        subst evs
        have ln : ns.length = ds.length := by rw [← l.len, List.length_map]
        exact .inr ⟨a, ns, rfl, Same.sqt S1.sub q1, by omega, fun b n hb hn => fin a ns (by omega) (onW_of S1 h1) b n hb hn⟩
      · exact h1.elim
    · exact h1.elim
  · exact h1.elim
end
end DP
set_option Elab.async false
set_option linter.all false
set_option maxRecDepth 100000
/-! DP, part 50: a dict comprehension of one clause whose value may let an exception out of a call. -/
namespace DP
open PySem PySem.Spec PyProof.Rows L2

/-! ### the block, its exceptions as they come out of a call -/
/-- an exception that a call within the block Y let out; σ0: the slots around -/
def XB (Y : Cx) (Wx : WX) (σ0 : L2.St) (u : Value) (s' : Shared) : Prop := ∃ pins σ H s, Inv Y pins σ H s ∧ L2.CX Y.prog Y.w Y.stack H s (fun cls d H' => Wx cls d σ0 H') u s'
def WB (Wx : WX) (σ0 : L2.St) : WX := fun cls d _ H => Wx cls d σ0 H
abbrev blkE (X : Cx) (Wx : WX) (σ0 : L2.St) (s : Shared) (H : Hp) (scope : Scope) (cenv : Env) (fp : List Addr) : Cx := { X.blk s H scope cenv fp with xe := XB (X.blk s H scope cenv fp) Wx σ0 }
section
variable {X : Cx} {Wx : WX} {σ0 : L2.St} {s0 : Shared} {H0 : Hp} {scope : Scope} {cenv : Env} {fp : List Addr} {pins : List (Addr × Obj)} {σ : L2.St} {H : Hp} {s : Shared}
theorem ok_toE {Y : Cx} {xe : Value → Shared → Prop} (o : Y.Ok) : ({ Y with xe := xe } : Cx).Ok := ⟨o.mod, o.kind, o.glob, o.blt, o.above, o.inj, o.has, o.cab, o.hd, o.frames, o.stk, o.exf, o.bs, o.bsz, o.noex, o.exfs, o.funs, o.frf⟩
theorem inv_toE (I : Inv (X.blk s0 H0 scope cenv fp) pins σ H s) : Inv (blkE X Wx σ0 s0 H0 scope cenv fp) pins σ H s := ⟨ok_toE I.ok, I.os, I.bare, I.base, I.loc, I.cell, I.free, I.freeC, I.pin, I.hok, I.len⟩
theorem inv_ofE (I : Inv (blkE X Wx σ0 s0 H0 scope cenv fp) pins σ H s) : Inv (X.blk s0 H0 scope cenv fp) pins σ H s := ⟨ok_toE I.ok, I.os, I.bare, I.base, I.loc, I.cell, I.free, I.freeC, I.pin, I.hok, I.len⟩
theorem passB (σ : L2.St) : PassesAt (L2.CX X.prog X.w) (blkE X Wx σ0 s0 H0 scope cenv fp) σ (WE (WB Wx σ0) σ) := fun pins H s e s' I c => ⟨pins, σ, H, s, inv_ofE I, c⟩
end
section
variable {X : Cx} {Wx : WX} {σ : L2.St} {H : Hp} {s : Shared} {k j : Nat} {f : Addr} {fd : FuncData} {ps : List Str} {n : Nat} {F : FD} {x : Str} {p pos : Pos} {e : Expr} {es : List Expr} {g : AF}
theorem ex_callP (d : Def0 X.prog X.w X.K X.mg X.base k x ps F) (hr : Room j X.A) (hk : k ≤ j) (hq : X.A.guards = some []) (hg : Gl X x) (tk : ∀ σ, PassesAt (L2.CX X.prog X.w) X σ (WE Wx σ)) (ha : EA X Wx (e :: es) g)
    (hdb : (x == ("__debug__" : Str)) = false := by decide) (he : starEach (e :: es) X.env = (false, eval e X.env) :: starEach es X.env := by rfl) (hpl : (backTo pos (starEach es X.env)).any (·.1) = false := by rfl) :
    EX X Wx (.Call (.Name x p) (e :: es) [] pos) (xCall ps.length F g) := by
  obtain ⟨f, fd, G, hm, hkp, hb⟩ := d.ex
  refine PE.wk (pe_callG (E := fun σ cls d H => Wx cls d σ H) G (hr.mono hk) hq hg hm hkp hb tk ha hdb he hpl) ?_
  rintro σ H Q ⟨ρ, W, env, A, S, h⟩
  unfold xCall at h
  refine tG_then S h fun ds W1 H1 env1 A1 vs S1 F1 r1 h1 => ?_
  by_cases hn : ds.length = ps.length
  · simp only [if_pos hn] at h1
    rw [List.append_nil]
    refine ⟨W1, ds, S1.sub, r1, hn, ?_⟩
    cases eF : F ds with
    | bad => rw [eF] at h1; exact h1.elim
    | ok d =>
      rw [eF] at h1
      intro W' H' v ex r
      exact h1 W' H' A1 v (S1.ex ex) (ex.fr _) r
    | exc c d e' =>
      rw [eF] at h1
      intro C W' H' dx v g ex hx r
      exact h1 C W' H' A1 dx v g (S1.ex ex) (ex.fr _) hx r
  · simp only [if_neg hn] at h1
    exact h1.elim
end

/-! ### out of the block -/
theorem funFrames_sub {h B B2 : Heap} (k : ∀ b, B.get? b = none → B2.get? b = none) : ∀ {l : List Env}, h.FunFrames B l → h.FunFrames B2 l
  | [], _ => trivial
  | _ :: _, ⟨hk, ⟨L, o, hf, hb, ho, hd⟩, hr⟩ => ⟨hk, ⟨L, o, hf, k _ hb, ho, hd⟩, funFrames_sub k hr⟩
set_option maxHeartbeats 1000000 in
theorem comp_out {X : Cx} {Wx : WX} {σ : L2.St} {pins : List (Addr × Obj)} {z3 : Shared} {H3 : Hp} {scope : Scope} {ce : Env} {fp : List Addr} {u : Value} {s' : Shared} (tk : Takes X Wx) (hst : X.stack = X.env :: X.outer) (hf : X.env.frame = some X.env.locals) (I3 : Inv X pins σ H3 z3)
    (f3 : ∀ b ∈ fp, FpOk X pins H3 b ∧ b < z3.heap.objs.size) (cL : ce.locals = z3.heap.objs.size) (cf : ce.frame = X.env.frame) (x : XB (X.blk z3 H3 scope ce fp) Wx σ u s') :
    notedBy (model X.prog X.w) X.A ce (fun e s'' => PySem.CompFails (model X.prog X.w) X.A X.xe ce e s'') u s' := by
  obtain ⟨pB, σB, HB, sB, IB, a, B, H', cls, d, rfl, fl, hok, ub, na, os, ag, hE⟩ := x
  have nC : HB ce.locals = none := IB.free
  have IX : Inv X pins σ HB sB := I3.call' (ch := fp) IB.os IB.base IB.hok IB.bare fun b hb => let y := (f3 b hb).1.2; ⟨y.2.2.1, y.1, y.2.2.2.1, y.2.2.2.2⟩
  have nC3 : H3 ce.locals = none := by rw [cL]; exact I3.hok.fresh (Nat.le_refl _)
  obtain ⟨f0, f1, f2, f4, f5, f6⟩ : FpOk X pins H3 ce.locals := by
    rw [cL]
    exact I3.fpOk (Nat.le_refl _) (by rw [← cL]; exact nC3)
  have nst : ce.locals ∉ frs X.stack := fun z => by
    rcases List.mem_cons.mp (IX.stkSub _ z) with z | z
    · exact f1 z
    · exact f2 z
  obtain ⟨m, ⟨oC, esC, epC, hoC, hdC, rC⟩, _⟩ := id IB.loc
  have hoC : sB.heap.get? ce.locals = some oC := hoC
  have bC : B.get? ce.locals = some oC := ub.keep _ _ hoC nC nst
  have nC' : H' ce.locals = none := ub.free _ _ hoC nC
  have hfr : X.A.frames = some (X.env :: X.outer) := by rw [I3.ok.frames, hst]
  show wpAny _ X.A (noteFrame (.ref a) ce) _ _ s'
  rw [PySem.noteFrame_env _ cf]
  have fl' : HandSPX.FlyingZ B (X.env :: X.outer) a (Zc cls d) s'.heap := by rw [← hst]; exact fl
  refine HandSPX.looks_onZ Zc.steady hfr hf fl' fun h1 hH up1 => ?_
  have s1C : ∃ sl, h1.get? ce.locals = some { oC with slots := sl } := up1 _ _ (fl.1 _ _ bC) fun vs q => by rw [hdC] at q; cases q
  obtain ⟨slC, e1C⟩ := s1C
  refine ⟨m, ⟨_, esC, epC, e1C, hdC, rC⟩, fun h2 m2 hn2 sb2 => ?_⟩
  obtain ⟨g1, g2, g3, oe, vs, T, oT, ts, he, hz, hd, h1', hnT, hTe, hT, hdT, h3'⟩ := hH
  have aC : a ≠ ce.locals := fun z => by
    rw [z, e1C] at he
    cases he
    rw [show ({ oC with slots := slC } : Obj).data = oC.data from rfl, hdC] at hd
    cases hd
  have TC : T ≠ ce.locals := fun z => by
    rw [z, e1C] at hT
    cases hT
    rw [show ({ oC with slots := slC } : Obj).data = oC.data from rfl, hdC] at hdT
    cases hdT
  have kB2 : ∀ b, B.get? b = none → (PySem.W.hideAll B [ce.locals]).get? b = none := fun b e => by
    cases q : (PySem.W.hideAll B [ce.locals]).get? b with
    | none => rfl
    | some o => rw [PySem.W.of_hideAll _ q] at e; cases e
  have inB2 : ∀ b o, (PySem.W.hideAll B [ce.locals]).get? b = some o → B.get? b = some o ∧ b ≠ ce.locals := fun b o e => ⟨PySem.W.of_hideAll _ e, fun z => by
    rw [PySem.W.hideAll_none [ce.locals] (by rw [z]; exact List.mem_singleton.mpr rfl)] at e
    cases e⟩
  have ofB : ∀ b o, B.get? b = some o → b ≠ ce.locals → (PySem.W.hideAll B [ce.locals]).get? b = some o := fun b o e n => PySem.W.hideAll_get _ e (by simpa using n)
  generalize PySem.W.hideAll B [ce.locals] = B2 at kB2 inB2 ofB
  have t2 : HandSPX.TracedZ h2 B2 a (Zc cls d) (rawInt X.env.locals) := ⟨oe, vs, T, oT, ts, (sb2.2 _ aC).trans he, hz, hd, h1', kB2 _ hnT, hTe, (sb2.2 _ TC).trans hT, hdT, h3'⟩
  have st2 : B2.StaysIn h2 := fun b o e => let ⟨e1, n⟩ := inB2 b o e; (sb2.2 b n).trans (g1 b o e1)
  have ff2 : h2.FunFrames B2 (X.env :: X.outer) := funFrames_sub kB2 (Heap.FunFrames.sameBut sb2 hn2 g3)
  obtain ⟨oe2, vs2, T2, _, _, he2, _, hd2, h12, _⟩ := id t2
  unfold PySem.passOn
  refine wpAny_bind (wpAny_field he2 hd2 h12 ?_)
  rw [if_neg (show ¬ ((Value.ref T2 == Value.none) = true) from by simp), cf, hf]
  refine wpAny_bind (HandSPX.setFlight_anyZ (fr := some X.env.locals) st2 ff2 t2 fun h3 st3 ff3 t3 up3 => wpAny_throw (tk _ _ ?_))
  obtain ⟨G, p1, p2⟩ := restrict h3 fun b => (B2.get? b).isSome || decide (b ∈ frs X.stack)
  have gB : ∀ b o, B2.get? b = some o → G.get? b = some o := fun b o e => (p1 b (by simp [e])).trans (st3 b o e)
  have gF : ∀ b, b ∈ frs X.stack → G.get? b = h3.get? b := fun b hb => p1 b (by simp [hb])
  have og : ∀ b o, G.get? b = some o → h3.get? b = some o ∧ ((B2.get? b).isSome = true ∨ b ∈ frs X.stack) := fun b o e => by
    cases q : ((B2.get? b).isSome || decide (b ∈ frs X.stack)) with
    | true => exact ⟨(p1 b q).symm.trans e, by simpa [Bool.or_eq_true] using q⟩
    | false => rw [p2 b q] at e; cases e
  have frC : ∀ b, b ∈ frs X.stack → b ≠ ce.locals := fun b hb z => nst (z ▸ hb)
  have frm : ∀ b o, b ∈ frs X.stack → sB.heap.get? b = some o → ∃ sl, h3.get? b = some { o with slots := sl } := fun b o hb e => by
    obtain ⟨_, o', e', hnf⟩ := IX.stack.mem hb
    rw [e] at e'
    cases e'
    obtain ⟨sl0, q0⟩ := ub.slot b o e hb
    obtain ⟨sl1, q1⟩ := up1 b _ q0 hnf
    obtain ⟨sl3, q3⟩ := up3 b _ ((sb2.2 b (frC b hb)).trans q1) hnf
    exact ⟨sl3, q3⟩
  have hokB2 : HOk X.prog X.w H' B2 := fun b o q => (hok b o q).stay (fun c v hc r => ofB c v r fun z => by
    rcases hc with hc | hc
    · rw [hc] at z; rw [z, nC'] at q; cases q
    · rw [z, nC'] at hc; cases hc) (fun _ r => r) fun _ _ r => r
  refine ⟨a, B2, { sB with heap := G, gens := s'.gens, drawn := s'.drawn, toks := s'.toks }, pins, σ, H', cls, d, rfl, ?_, fun b o e hb => ?_, Heap.UpToSlots.of_keeps fun b o e => (og b o e).1, .inr (.inr ⟨st3, kB2 _ g2, by rw [hst]; exact ff3, t3⟩), na, os, ag, hE⟩
  · refine IX.call (ch := [ce.locals]) ⟨fun b o e n hb hc => gB b o (ofB b o (ub.keep b o e n hb) (by simpa using hc)), fun b o e n hb _ => ?_, fun b o e n _ => ub.free b o e n, fun b o e hc => ?_, ub.tups, ub.frzs, ub.tbls⟩ (hokB2.kept gB) ag fun b hb => ?_
    · obtain ⟨sl, q⟩ := frm b o hb e
      exact ⟨sl, (gF b hb).trans q⟩
    · by_cases hb : b ∈ frs X.stack
      · obtain ⟨sl, q⟩ := frm b o hb e
        exact ⟨_, (gF b hb).trans q⟩
      · obtain ⟨o', q⟩ := ub.there b o e hb
        exact ⟨o', gB b o' (ofB b o' q (by simpa using hc))⟩
    · obtain rfl : b = ce.locals := by simpa using hb
      exact ⟨f4, f1, f5, f6⟩
  · obtain ⟨e', h⟩ := og b o e
    rcases h with h | h
    · obtain ⟨o', q⟩ := Option.isSome_iff_exists.mp h
      have z := st3 b o' q
      rw [e'] at z
      cases z
      exact q
    · exact absurd h hb
end DP
set_option Elab.async false
set_option linter.all false
set_option maxRecDepth 100000
/-! DP, part 51: the dict comprehension whose value may raise, as a value and reckoned. -/
namespace DP
open PySem PySem.Spec PyProof.Rows L2

def tDcX (X : Cx) (wi : TI) (g : TG) (tt : TT) (tk : TE) (tv : L2.St → TE) (vs : List Nat) : TE := fun σ H Q => wi σ H fun J H1 => ∀ L, H1 L = none → ∃ W : Nat → Nat → Hp → Prop, (∃ m, W 0 m (upd H1 L (dicO L #[] 0))) ∧ ∀ i m H, W i m H →
  (J.stop i H ∧ Q (.ref L) H) ∨ (J.go i H ∧ ∃ Nx : Hp → Prop, (∀ H', Nx H' → ∃ m', m' < m ∧ W (i + 1) m' H') ∧ ∀ x H', J.yld i H x H' → g x (wipe σ vs) H' fun σ2 H2 => wipe σ2 vs = wipe σ vs ∧ tt σ2 H2 fun b H3 => if b = true then tPut X.K X.w L tk (tv σ) σ2 H3 Nx else Nx H3)
section
variable {X : Cx}
set_option maxHeartbeats 1000000 in
theorem pe_dcX {Wx : WX} {kx vx tg iter : Expr} {ifs : List Expr} {scope : Scope} {own : List (Str × Nat)} {pos : Pos} {wi : TI} {g : TG} {tt : TT} {tk : TE} {tv : L2.St → TE} (hc : X.calm = true) (hu : X.A.units + 64 < cLine) (hN : X.N.Nodup) (ht0 : Takes X Wx) (hst : X.stack = X.env :: X.outer) (hf : X.env.frame = some X.env.locals) (hi : PI X tg iter wi) (ok : BlkOk X.N X.env.scope scope own)
    (hg : ∀ s H C cl fp, PG (X.blk s H scope (compEnvC scope cl C X.env) fp) tg g) (ht : ∀ s H C cl fp, PTs (X.blk s H scope (compEnvC scope cl C X.env) fp) ifs tt)
    (hk : ∀ s H C cl fp, PE (X.blk s H scope (compEnvC scope cl C X.env) fp) kx tk) (he : ∀ σ s H C cl fp, PE (blkE X Wx σ s H scope (compEnvC scope cl C X.env) fp) vx (tv σ)) (hs : ∀ x, foldedSetIterable iter X.env x = pure x := by intro _; rfl) :
    PE X (.DictComp kx vx [⟨tg, iter, ifs, 0⟩] scope pos) (tDcX X wi g tt tk tv (own.map (·.2))) := by
  refine ⟨fun pins s σ H Q I h => ?_⟩
  rw [arm_eval_DictComp]
  have free : ∀ y ∈ scope.names, y.2 = .free → ∃ c, X.env.cells.lookup y.1 = some c := fun y hy e => (ok.free y hy e).elim (fun k => I.ok.has _ (.inl k)) fun k => I.ok.has _ (.inr k)
  refine PySem.comprehension_at (use := none) rfl hs (closure_ok free) ok.kind (fun y hy e => by rw [ok.uniq y hy, e]) (thn (hi.run pins s σ H _ I h) fun xv z1 hx => thn hx fun itv z2 h2 => ?_)
  obtain ⟨it, fp, tn, J, H2, e, I2, T, st2, f2, q⟩ := h2
  subst e
  refine wpAny_newObj_type (newEnv_comp ?_)
  generalize hL : z2.heap.objs.size = L
  have nL : H2 L = none := I2.hok.fresh (Nat.le_of_eq hL)
  obtain ⟨W, ⟨m0, w0⟩, turn⟩ := q L nL
  generalize hz3 : ({ z2 with heap := z2.heap.push dct0 } : Shared) = z3
  have hp3 : z3.heap = z2.heap.push dct0 := by rw [← hz3]
  have I3 : Inv X pins σ (upd H2 L (dicO L #[] 0)) z3 := by
    rw [← hz3]
    exact I2.laid (t' := z2.toks) (fun b o e => Heap.get?_push_of_some _ e) (Nat.le_of_eq hL) (dicO_new (by rw [← hL]; exact beq_eq_false_iff_ne.mpr (Nat.ne_of_gt I2.big)) (Nat.zero_le _) (by rw [← hL]; exact Heap.get?_push_size _ rfl))
  have lt : ∀ b ∈ fp, b < z2.heap.objs.size := fun b hb => let ⟨_, e, _⟩ := T.obj _ _ st2 b hb; Heap.lt_size e
  have f3 : ∀ b ∈ fp, FpOk X pins (upd H2 L (dicO L #[] 0)) b ∧ b < z3.heap.objs.size := fun b hb =>
    ⟨⟨by rw [upd_ne (by rw [← hL]; exact Nat.ne_of_lt (lt b hb))]; exact (f2 b hb).1, (f2 b hb).2⟩, by rw [hp3, Heap.size_push]; exact Nat.lt_succ_of_lt (lt b hb)⟩
  have st3 : tn 0 z3.heap := T.keep _ _ _ st2 fun b _ o e => by rw [hp3]; exact Heap.get?_push_of_some _ e
  have I4 := block_start I3 ok hN f3
  generalize hH3 : upd H2 L (dicO L #[] 0) = H3 at I3 I4 w0 f3
  have pg := hg z3 H3 z3.heap.objs.size (cellsFrom (z3.heap.objs.size + 1) scope.names (cloFrom X.env.cells scope.names [])) fp
  have pt := ht z3 H3 z3.heap.objs.size (cellsFrom (z3.heap.objs.size + 1) scope.names (cloFrom X.env.cells scope.names [])) fp
  have pk := hk z3 H3 z3.heap.objs.size (cellsFrom (z3.heap.objs.size + 1) scope.names (cloFrom X.env.cells scope.names [])) fp
  have pe := he σ z3 H3 z3.heap.objs.size (cellsFrom (z3.heap.objs.size + 1) scope.names (cloFrom X.env.cells scope.names [])) fp
  have fp0 : ∀ b ∈ fp, H3 b = none := fun b hb => (f3 b hb).1.1
  show codeAny _ _ (.compStart (.DictComp kx vx [⟨tg, iter, ifs, 0⟩] scope pos) 0 (.ref it) (.ref L) (compEnvC scope (cellsFrom (z3.heap.objs.size + 1) scope.names (cloFrom X.env.cells scope.names [])) z3.heap.objs.size X.env)) (PySem.compEnds (model X.prog X.w) X.A X.xe none _ (.ref L) (compEnvC scope (cellsFrom (z3.heap.objs.size + 1) scope.names (cloFrom X.env.cells scope.names [])) z3.heap.objs.size X.env)) { z3 with heap := pushCells (z3.heap.push dct0) scope.names }
  have cF : (compEnvC scope (cellsFrom (z3.heap.objs.size + 1) scope.names (cloFrom X.env.cells scope.names [])) z3.heap.objs.size X.env).frame = X.env.frame := rfl
  generalize hce : compEnvC scope (cellsFrom (z3.heap.objs.size + 1) scope.names (cloFrom X.env.cells scope.names [])) z3.heap.objs.size X.env = ce at I4 pg pt pk pe cF ⊢
  have cL : ce.locals = z3.heap.objs.size := by subst hce; rfl
  generalize hz4 : ({ z3 with heap := pushCells (z3.heap.push dct0) scope.names } : Shared) = z4 at I4 ⊢
  have st4 : tn 0 z4.heap := T.keep _ _ _ st3 fun b _ o e => by rw [← hz4]; exact pushCells_keeps _ _ _ _ (Heap.get?_push_of_some _ e)
  have stat : ∀ {σ' : L2.St} {H' : Hp} {s' : Shared}, Inv (X.blk z3 H3 scope ce fp) [] σ' H' s' → (∀ b ∈ fp, H' b = none) → ∀ b ∈ fp, FpOk (X.blk z3 H3 scope ce fp) [] H' b := fun {σ' H' s'} I' hn b hb =>
    ⟨hn b hb, (I'.ok.exf b hb).1, I'.ok.exfs b hb, .inl hb, fun x c e => (I'.ok.exf b hb).2 x c e, fun p hp => absurd (hp : p ∈ ([] : List (Addr × Obj)) ++ []) (by simp)⟩
  have out : ∀ u s', XB (X.blk z3 H3 scope ce fp) Wx σ u s' → notedBy (model X.prog X.w) X.A ce (fun e s'' => PySem.compEnds (model X.prog X.w) X.A X.xe none (EP X pins σ Q) (.ref L) ce (.error e) s'') u s' := fun u s' x => comp_out ht0 hst hf I3 f3 cL cF x
  have loop : codeAny (model X.prog X.w) X.A (.compLoop (.DictComp kx vx [⟨tg, iter, ifs, 0⟩] scope pos) 0 (.ref it) (.ref L) ce) (PySem.compEnds (model X.prog X.w) X.A X.xe none (EP X pins σ Q) (.ref L) ce) z4 := by
    refine compLoop_anyD (fun n s' => ∃ i H', Inv (X.blk z3 H3 scope ce fp) [] (wipe σ (own.map (·.2))) H' s' ∧ tn i s'.heap ∧ (∀ b ∈ fp, H' b = none) ∧ W i n H') ?_ m0 ⟨0, H3, I4, st4, fp0, w0⟩
    rintro n z5 ⟨i, H5, I5, st5, n5, w5⟩
    rcases turn i n H5 w5 with ⟨stop, qq⟩ | ⟨go, Nx, hNx, step⟩
    · refine thnF (T.done (X.blk z3 H3 scope ce fp) rfl rfl rfl hc i [] z5 _ H5 (fun _ _ => False) I5 (stat I5 n5) st5 stop) fun r z6 ⟨hr, I6⟩ => ?_
      subst hr
      have I7 : Inv X pins σ H5 z6 := I3.call' (ch := fp) I6.os I6.base I6.hok I6.bare fun b hb => let y := (f3 b hb).1.2; ⟨y.2.2.1, y.1, y.2.2.2.1, y.2.2.2.2⟩
      have nC : H5 z3.heap.objs.size = none := by rw [← cL]; exact I6.free
      obtain ⟨m, hn, _⟩ := I6.loc
      obtain ⟨f0, f1, f2, f3', f4, f5⟩ := I3.fpOk (Nat.le_refl _) nC
      exact ⟨m, hn, fun h'' sb => ⟨.ref L, H5, I7.turned (t' := z6.toks) (fun b o hb e => (sb.2 b (by rw [cL]; exact hb)).trans e) f0 f1 f3' f4 f5, rfl, qq⟩⟩
    · refine thnF (T.item (X.blk z3 H3 scope ce fp) rfl rfl rfl hc i [] z5 _ H5 (fun _ _ => False) I5 (stat I5 n5) st5 go) fun r z6 ⟨u, hr, h6⟩ => ?_
      subst hr
      refine thnF h6 fun _ z7 ⟨x, H7, I7, r7, y7, st7, n7⟩ => ?_
      have I7' := I7.pinned (stat I7 n7) (T.obj _ _ st7)
      refine thnF (pg.run _ z7 _ H7 x u _ I7' r7 (step x H7 y7)) fun _ z8 ⟨σ8, H8, I8, hw8, q8⟩ => ?_
      refine thnF (pt.run _ z8 σ8 H8 _ I8 q8) fun b z9 ⟨H9, I9, q9⟩ => ?_
      have fin : ∀ {σ9 : L2.St} {s' : Shared} {H' : Hp}, Inv (X.blk z3 H3 scope ce fp) ([] ++ pinsAt fp z7.heap) σ9 H' s' → σ9.length = σ8.length → (∀ (j : Nat) v, (wipe σ (own.map (·.2)))[j]? = some (some v) → σ9[j]? = some (some v)) → Nx H' →
          ∃ m, m < n ∧ ∃ i H', Inv (X.blk z3 H3 scope ce fp) [] (wipe σ (own.map (·.2))) H' s' ∧ tn i s'.heap ∧ (∀ b ∈ fp, H' b = none) ∧ W i m H' := fun {σ9 s' H'} I' hl hk nx => by
        obtain ⟨m', hm, w'⟩ := hNx H' nx
        have pin' : ∀ b ∈ fp, ∀ o, z7.heap.get? b = some o → s'.heap.get? b = some o ∧ H' b = none := fun b hb o e =>
          let z := I'.pin (b, o) (List.mem_append_right _ (List.mem_append_right _ (mem_pinsAt hb e)))
          ⟨z.1, z.2.1⟩
        refine ⟨m', hm, i + 1, H', (I'.unpinned (pins := [])).weak (by rw [hl, ← hw8, wipe_length]) hk, T.keep _ _ _ st7 fun b hb o e => (pin' b hb o e).1, fun b hb => ?_, w'⟩
        obtain ⟨o, e, _⟩ := T.obj _ _ st7 b hb
        exact (pin' b hb o e).2
      cases b with
      | false =>
        simp only [Bool.false_eq_true, if_false] at q9 ⊢
        exact fin I9 rfl (fun j v e => by rw [← hw8] at e; exact (wipe_some e).1) q9
      | true =>
        simp only [if_true] at q9 ⊢
        refine thnF (pk.run _ z9 σ8 H9 _ I9 q9) fun u10 z10 ⟨k10, H10, I10, r10, q10⟩ => ?_
        refine wpAny_mono (pe.run _ z10 σ8 H10 _ (inv_toE I10) q10) (fun u11 z11 ⟨v11, H11, I11, r11, W', es, ep, dk, dv, kvs, sm, r1, okk, r2, hH, kv, nd, hlt, nx⟩ => ?_) fun u s' x => out u s' x
        exact put_ok (Y := X.blk z3 H3 scope ce fp) hu (inv_ofE I11) sm r10 r11 r1 okk r2 hH kv nd hlt fun es' ep' t kv' nd' I12 => fin I12 rfl (fun j v e => by rw [← hw8] at e; exact (wipe_some e).1) (nx es' ep' kv' nd')
  exact codeAny_compStart_dict loop (T.self X.A 0 _ _ _ st4 loop)
end

/-! ### reckoned -/
def loopX (fk fv : XF) (g : GF) (ts : TF) (vs : List Nat) : List D → Ev → Out (List (D × D) × Ev)
  | [], env => .ok ([], env)
  | x :: xs, env => match g x env with
    | none => .bad
    | some e1 => match ts e1 with
      | .ok t => if t.1 = true then (match fk t.2 with
          | .ok k => (fv k.2).bind fun v => if keyOk k.1 = true then (loopX fk fv g ts vs xs (wipeE v.2 vs)).bind fun r => .ok ((k.1, v.1) :: r.1, r.2) else .bad
          | _ => .bad) else loopX fk fv g ts vs xs (wipeE t.2 vs)
      | _ => .bad
def xDcX (it : IF) (g : GF) (ts : TF) (fk fv : XF) (vs : List Nat) : XF := fun env => (it env).bind fun r => if r.1.length ≤ sizeLine then (match loopX fk fv g ts vs r.1 (wipeE r.2 vs) with
    | .ok (ds, e) => .ok (.dict (dMerge [] ds), backE r.2 e vs)
    | .exc c d e => .exc c d (backE r.2 (wipeE e vs) vs)
    | .bad => .bad) else .bad
section
variable {X : Cx} {Wx : WX} {L : Addr} {W1 H1 : Hp} {A1 : List (List Addr)} {ρ : Nat → Addr} {σ : L2.St} {env1 : Ev} {us vs : List Nat}
/-- what is still wanted of the rest of the loop -/
def onO (X : Cx) (Wx : WX) (L : Addr) (W1 H1 : Hp) (A1 : List (List Addr)) (ρ : Nat → Addr) (σ : L2.St) (env1 : Ev) (vs : List Nat) (Fin : Hp → Prop) (done : List (D × D)) (o : Out (List (D × D) × Ev)) : Prop := match o with
  | .ok (rest, envE) => ∀ W' H' A', CSd X L W1 H1 A1 ρ envE (L2.wipe σ vs) (done ++ rest) W' H' A' → Same W1 W' → Fin H'
  | .exc c d e => ∀ C W' H' A' dx v, X.mg c = some (.ref C) → SR X.K X.w ρ W' H' (backE env1 (wipeE e vs) vs) σ A' → Fr W1 H1 (ownd A1) W' H' (ownd A') → H' dx = some (.xd [("at", v)]) → Rep X.K X.w W' d v → Wx (.ref C) (some dx) σ H'
  | .bad => False
theorem loop_readX (hus : ∀ j ∈ us, j ∈ vs) {fk fv : XF} {g : GF} {ts : TF} {xs : List D} {J : It} {W H : Hp} {A : List (List Addr)} {env : Ev} {done : List (D × D)} {Fin : Hp → Prop} (nL : H1 L = none) (S1 : SR X.K X.w ρ W1 H1 env1 σ A1) (s1 : Same W1 W)
    (wk : Wk X.K X.w W xs J) (C : CSd X L W1 H1 A1 ρ env (L2.wipe σ vs) done W H A) (hz : done.length + xs.length ≤ sizeLine) (h : onO X Wx L W1 H1 A1 ρ σ env1 vs Fin done (loopX fk fv g ts vs xs env)) :
    ∃ W2 : Nat → Nat → Hp → Prop, (∃ m, W2 0 m H) ∧ ∀ j k H, W2 j k H → (J.stop j H ∧ Fin H) ∨
      (J.go j H ∧ ∃ Nx1 : Hp → Prop, (∀ H', Nx1 H' → ∃ k', k' < k ∧ W2 (j + 1) k' H') ∧ ∀ x H', J.yld j H x H' → tGt X us g x (L2.wipe σ vs) H' fun σ3 H5 => L2.wipe σ3 vs = L2.wipe σ vs ∧ tT X Wx0 ts σ3 H5 fun b H6 => if b = true then tPut X.K X.w L (tX X Wx0 fk) (tX X (WB Wx σ) fv) σ3 H6 Nx1 else Nx1 H6) := by
  refine ⟨fun i m H => m = xs.length - i ∧ i ≤ xs.length ∧ ∃ W2 env2 A2 done2, CSd X L W1 H1 A1 ρ env2 (L2.wipe σ vs) done2 W2 H A2 ∧ Same W W2 ∧ done2.length + (xs.length - i) ≤ sizeLine ∧ onO X Wx L W1 H1 A1 ρ σ env1 vs Fin done2 (loopX fk fv g ts vs (xs.drop i) env2),
    ⟨xs.length, by simp, Nat.zero_le _, W, env, A, done, C, Same.refl _, hz, h⟩, ?_⟩
  rintro i m H2 ⟨rfl, hi, W2, env2, A2, done2, C2, s2, hz2, c2⟩
  by_cases hlt : i < xs.length
  · obtain ⟨x, hx⟩ : ∃ x, xs[i]? = some x := ⟨_, List.getElem?_eq_getElem hlt⟩
    have hd : xs.drop i = x :: xs.drop (i + 1) := by
      have e1 := List.drop_eq_getElem_cons hlt
      rw [List.getElem?_eq_getElem hlt] at hx
      cases hx
      exact e1
    rw [hd] at c2
    unfold loopX at c2
    refine .inr ⟨wk.go i H2 W2 s2 C2.sr.sub hlt, fun H => i + 1 ≤ xs.length ∧ ∃ W2 env2 A2 done2, CSd X L W1 H1 A1 ρ env2 (L2.wipe σ vs) done2 W2 H A2 ∧ Same W W2 ∧ done2.length + (xs.length - (i + 1)) ≤ sizeLine ∧ onO X Wx L W1 H1 A1 ρ σ env1 vs Fin done2 (loopX fk fv g ts vs (xs.drop (i + 1)) env2),
      fun H' ⟨q1, q2⟩ => ⟨xs.length - (i + 1), by omega, rfl, q1, q2⟩, fun v H4 y => ?_⟩
    obtain ⟨W4, e4, r4⟩ := wk.yld i H2 W2 v H4 x s2 C2.sr.sub hx y
    have S4 := C2.sr.ex e4
    cases eg : g x env2 with
    | none => rw [eg] at c2; exact c2.elim
    | some env5 =>
      rw [eg] at c2
      simp only at c2
      refine ⟨ρ, W4, env2, A2, x, env5, S4, r4, eg, fun σ5 A5 S5 p5 a5 => ?_⟩
      have ws : L2.wipe σ5 vs = L2.wipe σ vs := by rw [wipe_agr a5 hus, wipe_wipe]
      have C5 : CSd X L W1 H1 A1 ρ env5 σ5 done2 W4 H4 A5 := C2.step S5 ((e4.fr _).trans (fr_sub p5))
      refine ⟨by rw [ws], ρ, W4, env5, A5, S5, ?_⟩
      cases et : ts env5 with
      | bad => rw [et] at c2; exact c2.elim
      | exc c d e => rw [et] at c2; exact c2.elim
      | ok t =>
        obtain ⟨k, env6⟩ := t
        rw [et] at c2
        simp only at c2
        intro W6 H6 A6 k' S6 F6 r6
        subst r6
        have C6 := C5.step S6 F6
        have s6 := (s2.trans e4.ext).trans F6.ext
        cases k' with
        | false =>
          simp only [Bool.false_eq_true, if_false] at c2
          have C7 := C6.wipe vs
          rw [ws] at C7
          exact iteF ⟨hlt, W6, _, _, done2, C7, s6, by omega, c2⟩
        | true =>
          simp only [if_true] at c2
          refine iteT ⟨ρ, W6, env6, A6, S6, ?_⟩
          cases ek : fk env6 with
          | bad => rw [ek] at c2; exact c2.elim
          | exc c d e => rw [ek] at c2; exact c2.elim
          | ok kr =>
            obtain ⟨dk, env7⟩ := kr
            rw [ek] at c2
            simp only at c2
            intro W7 H7 A7 kv7 S7 F7 r7
            have C7 := C6.step S7 F7
            refine ⟨ρ, W7, env7, A7, S7, ?_⟩
            cases ev : fv env7 with
            | bad => rw [ev] at c2; exact c2.elim
            | exc c d e =>
              rw [ev] at c2
              intro Cx W' H' A' dx v' hm S' F' hx' rv'
              have S8 := S'.wipe vs
              rw [ws] at S8
              have sW : Same W1 W' := (((s1.trans s2).trans e4.ext).trans F6.ext).trans (F7.ext.trans F'.ext)
              exact c2 Cx W' H' _ dx v' hm (SR.back S8 S1 sW) ((C7.fr.trans F').trans (fr_sub fun p h => ownd_wipe (ownd_wipe h))) hx' rv'
            | ok vr =>
              obtain ⟨dv, env8⟩ := vr
              rw [ev, Out.bind_ok] at c2
              simp only at c2
              intro W8 H8 A8 v8 S8 F8 r8
              have C8 := C7.step S8 F8
              obtain ⟨es, ep, a1, a2, a3⟩ := C8.at_
              split at c2
              · rename_i kk
                have hl := dMerge_len done2 []
                refine ⟨W8, es, ep, dk, dv, _, S8.sub, Rep.mono F8.ext _ _ r7, kk, r8, a1, a2, a3, ?_, fun es' ep' r nd => ?_⟩
                · simp only [List.length_nil] at hl
                  omega
                · have C9 := (C8.put (ep' := ep') nL r nd).wipe vs
                  rw [ws] at C9
                  refine ⟨hlt, W8, _, _, done2 ++ [(dk, dv)], C9, s6.trans (F7.ext.trans F8.ext), by simp only [List.length_append, List.length_cons, List.length_nil]; omega, ?_⟩
                  cases el : loopX fk fv g ts vs (xs.drop (i + 1)) (wipeE env8 vs) with
                  | bad => rw [el] at c2; exact c2.elim
                  | exc c d e => rw [el] at c2; exact c2
                  | ok r =>
                    obtain ⟨rest, envE⟩ := r
                    rw [el, Out.bind_ok] at c2
                    intro W' H' A' C' s'
                    exact c2 W' H' A' (by rw [List.append_assoc] at C'; exact C') s'
              · exact c2.elim
  · have ei : i = xs.length := by omega
    subst ei
    rw [List.drop_length] at c2
    unfold loopX at c2
    refine .inl ⟨wk.stop _ H2 W2 s2 C2.sr.sub (Nat.le_refl _), ?_⟩
    exact c2 W2 H2 A2 (by rw [List.append_nil]; exact C2) (s1.trans s2)
end
section
variable {X : Cx} {Wx : WX} {it : IF} {g : GF} {ts : TF} {fk fv : XF} {us vs : List Nat} {σ : L2.St} {H : Hp} {Q : VK}
theorem dcX_read (hus : ∀ j ∈ us, j ∈ vs) (h : tN X Wx (xDcX it g ts fk fv vs) σ H Q) : tDcX X (tI X Wx it) (tGt X us g) (tT X Wx0 ts) (tX X Wx0 fk) (fun σ => tX X (WB Wx σ) fv) vs σ H Q := by
  obtain ⟨ρ, W, env, A, S, h⟩ := h
  unfold xDcX at h
  refine tN_then S h fun xs W1 H1 env1 A1 J S1 F1 wk h1 => ?_
  intro L nL
  simp only at h1
  split at h1
  · rename_i hz
    have nW : W1 L = none := S1.sub.free nL
    have oL : ¬ ownd A1 L := fun z => by
      obtain ⟨_, u, hu⟩ := S1.own z
      rw [nL] at hu; cases hu
    have E := Ex.junk (o := dicO L #[] 0) S1.sub nL
    have C : CSd X L W1 H1 A1 ρ env1 σ [] W1 (upd H1 L (dicO L #[] 0)) A1 := ⟨S1.ex E, E.fr _, nW, oL, #[], 0, upd_same, by show RepKV X.K X.w W1 [] [] ; simp only [RepKV], by show ([].map _).Nodup; exact List.nodup_nil⟩
    refine loop_readX (Wx := Wx) (env1 := env1) hus nL S1 (Same.refl _) wk (C.wipe vs) (by simpa using hz) ?_
    cases ec : loopX fk fv g ts vs xs (wipeE env1 vs) with
    | bad => rw [ec] at h1; exact h1.elim
    | exc c d e =>
      rw [ec] at h1
      exact h1
    | ok r =>
      obtain ⟨ds, envE⟩ := r
      rw [ec] at h1
      intro W2 H2 A2 C2 s2
      exact h1 W2 H2 _ L (SR.back C2.sr S1 s2) (C2.fr.trans (fr_sub fun p h => ownd_wipe h)) C2.nw C2.at_ (fun z => C2.no (ownd_wipe z)) (.inr nL)
  · exact h1.elim
end
theorem en_dcX {X : Cx} {Wx : WX} {it : IF} {g : GF} {ts : TF} {fk fv : XF} {us : List Nat} {kx vx tg iter : Expr} {ifs : List Expr} {scope : Scope} {own : List (Str × Nat)} {pos : Pos} (hc : X.calm = true) (hu : X.A.units + 64 < cLine) (hN : X.N.Nodup) (tk : Takes X Wx) (hst : X.stack = X.env :: X.outer) (hf : X.env.frame = some X.env.locals) (hi : EI X Wx tg iter it)
    (ok : BlkOk X.N X.env.scope scope own) (hus : us ⊆ own.map (·.2)) (hg : ∀ s H C cl fp, EG (X.blk s H scope (compEnvC scope cl C X.env) fp) tg us g)
    (ht : ∀ s H C cl fp, EQ (X.blk s H scope (compEnvC scope cl C X.env) fp) Wx0 ifs ts) (hk : ∀ s H C cl fp, EX (X.blk s H scope (compEnvC scope cl C X.env) fp) Wx0 kx fk) (he : ∀ σ s H C cl fp, EX (blkE X Wx σ s H scope (compEnvC scope cl C X.env) fp) (WB Wx σ) vx fv)
    (hs : ∀ x, foldedSetIterable iter X.env x = pure x := by intro _; rfl) : EN X Wx (.DictComp kx vx [⟨tg, iter, ifs, 0⟩] scope pos) (xDcX it g ts fk fv (own.map (·.2))) :=
  PE.wk (pe_dcX hc hu hN tk hst hf hi ok hg ht hk he hs) fun σ H Q h => dcX_read (fun j hj => hus hj) h
end DP
set_option Elab.async false
set_option linter.all false
set_option maxRecDepth 100000
/-! DP, part 52: dicts compared, keys of any kind. -/
namespace DP
open PySem PySem.Spec PyProof.Rows L2
open Sem (wp)
section
variable {prog : Program} {w : World} {A : Around} {E : Value → Shared → Prop} {s : Shared} {a b : Addr} {es es' : Array DictEntry} {ep ep' : Nat} {ks ks' : List NestedKey}
/-- what each entry of the one dict finds in the other -/
def NHits (A : Around) (s : Shared) (ks ks' : List NestedKey) (es es' : Array DictEntry) (eqs : Nat → Bool) : Prop := ∀ (i : Nat) (e : DictEntry) (k : NestedKey), es[i]? = some e → ks[i]? = some k → (Hit ks' k none → eqs i = false) ∧ ∀ j e', Hit ks' k (some j) → es'[j]? = some e' → SeqAt.EqAt A s e.val e'.val (eqs i)
theorem nq_same {nm : String} {eqs : Nat → Bool} {Q : Bool → Shared → Prop} (ha : (a == sysModules) = false) (hb : (b == sysModules) = false) (hu : A.units + 8 < cLine)
    (hoa : s.heap.get? a = some (dobj es ep)) (hob : s.heap.get? b = some (dobj es' ep')) (N : Ents w s.heap ks es) (N' : Ents w s.heap ks' es') (hits : NHits A s ks ks' es es' eqs) (h : Q (es.size == es'.size && (List.range' 0 es.size).all eqs) s) :
    wpAny (model prog w) A (Builtin.Dict.samePairs nm a b) Q E s := by
  have hda : (dobj es ep).data = .dict es ep := rfl
  have hdb : (dobj es' ep').data = .dict es' ep' := rfl
  unfold Builtin.Dict.samePairs Builtin.Dict.showsAll
  rw [if_neg (show ¬ (a == sysModules) = true by rw [ha]; exact Bool.false_ne_true), if_neg (show ¬ (b == sysModules) = true by rw [hb]; exact Bool.false_ne_true)]
  refine wpAny_bind (wpAny_pure (wpAny_bind (wpAny_pure ?_)))
  refine wpAny_bind (wpAny_dictEntries hoa hda ?_)
  dsimp only
  refine wpAny_bind (wpAny_dictEntries hob hdb ?_)
  by_cases hsz : es.size = es'.size
  case neg =>
    rw [if_pos (by simpa using hsz)]
    have hbf : (es.size == es'.size) = false := by simpa using hsz
    rw [hbf, Bool.false_and] at h
    exact wpAny_bind (wpAny_rule (wpAny_pure h))
  case pos =>
    have h' : Q ((List.range' 0 es.size).all eqs) s := by simpa [hsz] using h
    rw [if_neg (by rw [hsz]; simp)]
    refine wpAny_bind (wpAny_dictEpoch hoa hda ?_)
    refine wpAny_bind ?_
    rw [Std.Legacy.Range.forIn_eq_forIn_range']
    simp only [Std.Legacy.Range.size, Nat.sub_zero, Nat.add_sub_cancel, Nat.div_one]
    refine wpAny_forIn_list _
      (fun rest q s' => s' = s ∧ q = (none, ()) ∧ ∃ i, rest = List.range' i (es.size - i) ∧ i ≤ es.size ∧ (List.range' 0 es.size).all eqs = (List.range' i (es.size - i)).all eqs)
      _ ?_ ?_ _ _ ⟨rfl, rfl, 0, by simp, Nat.zero_le _, by simp⟩
    · rintro x rest q s' ⟨rfl, rfl, i, hr, hi, hpre⟩
      have hlt : i < es.size := by
        rcases Nat.lt_or_ge i es.size with h | h
        · exact h
        · rw [Nat.sub_eq_zero_of_le h] at hr; simp at hr
      have e0 : es.size - i = (es.size - (i + 1)) + 1 := by omega
      obtain ⟨rfl, hrest⟩ : x = i ∧ rest = List.range' (i + 1) (es.size - (i + 1)) := by
        rw [e0, List.range'_succ] at hr
        injection hr with h1 h2
        exact ⟨h1, h2⟩
      rw [e0, List.range'_succ, List.all_cons] at hpre
      refine wpAny_bind (wpAny_dictEntries hoa hda ?_)
      rw [Array.getElem?_eq_getElem hlt]
      obtain ⟨k, hk1, hk2, hk3, hh⟩ := N.ent x es[x] (Array.getElem?_eq_getElem hlt)
      obtain ⟨miss, hit⟩ := hits x es[x] k (Array.getElem?_eq_getElem hlt) hk1
      show wpAny _ _ (holding [es[x].key, es[x].val] _ >>= _) _ _ _
      rw [hh]
      refine wpAny_bind (wpAny_holding (wpAny_bind (dictFind_any N' hu hob hdb hk2 hk3 fun r hr => ?_)))
      cases r with
      | none =>
        rw [miss hr, Bool.false_and] at hpre
        rw [hpre] at h'
        refine wpAny_pure ?_
        show wpAny _ _ (if (!false) = true then _ else _) _ _ _
        rw [if_pos (by decide)]
        exact wpAny_pure (wpAny_pure h')
      | some j =>
        obtain ⟨e', he', _⟩ := N'.get hr
        refine wpAny_bind (wpAny_dictEntries hob hdb ?_)
        rw [he']
        have he := hit j e' hr he'
        refine wpAny_holding (he prog w _ _ ?_)
        cases eq : eqs x with
        | false =>
          rw [eq, Bool.false_and] at hpre
          rw [hpre] at h'
          show wpAny _ _ (if (!false) = true then _ else _) _ _ _
          rw [if_pos (by decide)]
          exact wpAny_pure (wpAny_pure h')
        | true =>
          rw [eq, Bool.true_and] at hpre
          show wpAny _ _ (if (!true) = true then _ else _) _ _ _
          rw [if_neg (by decide)]
          refine wpAny_bind (wpAny_dictEpoch hoa hda ?_)
          rw [if_neg (by simp)]
          exact wpAny_pure ⟨rfl, rfl, x + 1, hrest, hlt, hpre⟩
    · rintro q s' ⟨rfl, rfl, i, hr, hi, hpre⟩
      have hin : i = es.size := by
        rcases Nat.lt_or_ge i es.size with h | h
        · have e : es.size - i = (es.size - (i + 1)) + 1 := by omega
          rw [e, List.range'_succ] at hr; exact nomatch hr
        · exact Nat.le_antisymm hi h
      refine wpAny_pure ?_
      rw [hin, Nat.sub_self] at hpre
      rw [hpre] at h'
      exact h'
theorem nq_eq {eqs : Nat → Bool} {Q : Value → Shared → Prop} (ha : (a == sysModules) = false) (hb : (b == sysModules) = false) (hu : A.units + 16 < cLine)
    (hoa : s.heap.get? a = some (dobj es ep)) (hob : s.heap.get? b = some (dobj es' ep')) (N : Ents w s.heap ks es) (N' : Ents w s.heap ks' es') (hits : NHits A.in1 s ks ks' es es' eqs) (h : Q (.bool (es.size == es'.size && (List.range' 0 es.size).all eqs)) s) :
    wpAny (model prog w) A (compareOp .Eq (.ref a) (.ref b)) Q E s := by
  refine wpAny_richCompare_same_room (op := .Eq) (dobj_type hoa) (dobj_type hob) PySem.F.slot_dict_eq (wpAny_call_entry PySem.F.slot_dict_eq (dobj_type hoa) PySem.F.entry_dict_eq ?_ (PySem.F.args_dict_eq_2 _ _)) (by omega)
  show wpAny _ _ (Builtin.Dict.dictSlotArgs "__eq__" ⟨[.ref a, .ref b], []⟩ >>= _) _ _ s
  refine wpAny_bind ?_
  unfold Builtin.Dict.dictSlotArgs
  refine wpAny_bind (wpAny_notOrdered_dict (dobj_type hoa) ?_)
  show wpAny _ _ (pure (Value.ref a, Value.ref b)) _ _ s
  refine wpAny_pure ?_
  refine wpAny_bind (wpAny_isInstance (T := "dict") (dobj_type hob) PySem.F.sub_dict_dict ?_)
  simp only [Bool.not_true, Bool.false_eq_true, if_false]
  refine wpAny_bind (wpAny_pure (wpAny_bind (wpAny_pure ?_)))
  refine wpAny_bind (nq_same ha hb (by simp only [Around.in1_units]; omega) hoa hob N N' hits ?_)
  refine wpAny_pure ⟨_, rfl, ?_, ?_⟩
  · exact fun x => nomatch x
  · simpa using h
theorem nq_ne {eqs : Nat → Bool} {Q : Value → Shared → Prop} (ha : (a == sysModules) = false) (hb : (b == sysModules) = false) (hu : A.units + 16 < cLine)
    (hoa : s.heap.get? a = some (dobj es ep)) (hob : s.heap.get? b = some (dobj es' ep')) (N : Ents w s.heap ks es) (N' : Ents w s.heap ks' es') (hits : NHits A.in1 s ks ks' es es' eqs) (h : Q (.bool (!(es.size == es'.size && (List.range' 0 es.size).all eqs))) s) :
    wpAny (model prog w) A (compareOp .NotEq (.ref a) (.ref b)) Q E s := by
  refine wpAny_richCompare_same_room (op := .NotEq) (dobj_type hoa) (dobj_type hob) PySem.F.slot_dict_ne (wpAny_call_entry PySem.F.slot_dict_ne (dobj_type hoa) PySem.F.entry_dict_ne ?_ (PySem.F.args_dict_ne_2 _ _)) (by omega)
  show wpAny _ _ (Builtin.Dict.dictSlotArgs "__ne__" ⟨[.ref a, .ref b], []⟩ >>= _) _ _ s
  refine wpAny_bind ?_
  unfold Builtin.Dict.dictSlotArgs
  refine wpAny_bind (wpAny_notOrdered_dict (dobj_type hoa) ?_)
  show wpAny _ _ (pure (Value.ref a, Value.ref b)) _ _ s
  refine wpAny_pure ?_
  refine wpAny_bind (wpAny_isInstance (T := "dict") (dobj_type hob) PySem.F.sub_dict_dict ?_)
  simp only [Bool.not_true, Bool.false_eq_true, if_false]
  refine wpAny_bind (wpAny_pure (wpAny_bind (wpAny_pure ?_)))
  refine wpAny_bind (nq_same ha hb (by simp only [Around.in1_units]; omega) hoa hob N N' hits ?_)
  refine wpAny_pure ⟨_, rfl, ?_, ?_⟩
  · exact fun x => nomatch x
  · simpa using h
end
/-! ### as data -/
def eqAtN (kws : List (D × D)) (p : D × D) : Bool := match dAt kws p.1 with
  | some e => p.2.eqv e
  | none => false
def eqN (a b : List (D × D)) : Bool := a.length == b.length && a.all (eqAtN b)
def plainN (a : List (D × D)) : Bool := a.all fun p => p.2.plain && decide (p.2.depth ≤ 60)
def eqD3 (x y : D) : Option D := match x, y with
  | .dict a, .dict b => if (plainN a && plainN b) = true then some (.bool (eqN a b)) else none
  | _, _ => eqD x y
def neD3 (x y : D) : Option D := match x, y with
  | .dict a, .dict b => if (plainN a && plainN b) = true then some (.bool (!eqN a b)) else none
  | _, _ => neD x y
section
variable {X : Cx} {pins : List (Addr × Obj)} {σ : L2.St} {s : Shared} {H W : Hp}
theorem n_hits (I : Inv X pins σ H s) (sm : Same W H) {A : Around} (hu : A.units + 61 < cLine) {kvs kws : List (D × D)} {es es' : Array DictEntry} {ks ks' : List NestedKey} (kv : RepKV X.K X.w W kvs es.toList) (nd : (kvs.map fun p => keyD p.1).Nodup) (ek : kvs.map (fun p => keyD p.1) = ks.map some)
    (kv' : RepKV X.K X.w W kws es'.toList) (nd' : (kws.map fun p => keyD p.1).Nodup) (ek' : kws.map (fun p => keyD p.1) = ks'.map some) (pa : plainN kvs = true) (pb : plainN kws = true) : NHits A s ks ks' es es' fun i => match kvs[i]? with
      | some p => eqAtN kws p
      | none => false := by
  intro i e k he hk
  obtain ⟨d, v, q1, ⟨kk, a1, a2, a3⟩, _, y, c1, c2⟩ := kv.at (j := i) (e := e) (by rw [Array.getElem?_toList]; exact he)
  have hkd : keyD d = some k := by
    have := congrArg (fun l => l[i]?) ek
    simp only [List.getElem?_map, q1, hk, Option.map_some] at this
    exact Option.some.inj this
  simp only [q1]
  refine ⟨fun hn => ?_, fun j e' hj he' => ?_⟩
  · unfold eqAtN
    rw [(hit_none ek' hkd hn).1]
  · obtain ⟨p, p1, p2, p3, _⟩ := hit_some ek' nd' hkd hj
    obtain ⟨d', v', q1', _, _, y', c1', c2'⟩ := kv'.at (j := j) (e := e') (by rw [Array.getElem?_toList]; exact he')
    rw [p1] at q1'
    cases q1'
    have er : eqAtN kws (d, v) = v.eqv v' := by
      unfold eqAtN
      rw [p3]
    rw [er]
    have h1 : v.plain = true ∧ v.depth ≤ 60 := by
      have := List.all_eq_true.mp pa _ (List.mem_of_getElem? q1)
      simpa using this
    have h2 : v'.plain = true ∧ v'.depth ≤ 60 := by
      have := List.all_eq_true.mp pb _ (List.mem_of_getElem? p1)
      simpa using this
    obtain ⟨as, ra⟩ := Rep.reads I sm v y e.val c2 c1
    obtain ⟨bs, rb⟩ := Rep.reads I sm v' y' e'.val c2' c1'
    exact PySem.SeqAt.eqAt_plain v v' A s e.val e'.val as bs ra rb h1.1 h2.1 (by omega)
theorem n_all {kvs kws : List (D × D)} : (List.range' 0 kvs.length).all (fun i => match kvs[i]? with
      | some p => eqAtN kws p
      | none => false) = kvs.all (eqAtN kws) := by
  rw [Bool.eq_iff_iff, List.all_eq_true, List.all_eq_true]
  constructor
  · intro h p hp
    obtain ⟨i, hi⟩ := List.getElem?_of_mem hp
    have := h i (List.mem_range'_1.mpr ⟨Nat.zero_le _, by have := (List.getElem?_eq_some_iff.mp hi).1; omega⟩)
    rw [hi] at this
    exact this
  · intro h i hi
    have hl := (List.mem_range'_1.mp hi).2
    rw [Nat.zero_add] at hl
    rw [List.getElem?_eq_getElem hl]
    exact h _ (List.getElem_mem hl)
def rEqN (X : Cx) (neg : Bool) : R2 := fun x y H Q => ∃ W a b es ep es' ep' kvs kws, x = .ref a ∧ y = .ref b ∧ Same W H ∧ H a = some (dicO a es ep) ∧ H b = some (dicO b es' ep') ∧ RepKV X.K X.w W kvs es.toList ∧ (kvs.map fun p => keyD p.1).Nodup ∧ RepKV X.K X.w W kws es'.toList ∧ (kws.map fun p => keyD p.1).Nodup ∧
  (plainN kvs && plainN kws) = true ∧ Q (.bl (if neg then !eqN kvs kws else eqN kvs kws)) H
theorem op_eqN (hu : X.A.units + 64 < cLine) : OpR X (compareOp .Eq) (rEqN X false) := by
  intro pins s σ H x y u v Q I rx ry h
  obtain ⟨W, a, b, es, ep, es', ep', kvs, kws, rfl, rfl, sm, ha, hb, kv, nd, kv', nd', c, q⟩ := h
  cases rx
  cases ry
  rw [Bool.and_eq_true] at c
  obtain ⟨⟨a1, a2, a3⟩, _⟩ := I.hok a _ ha
  obtain ⟨⟨b1, b2, b3⟩, _⟩ := I.hok b _ hb
  obtain ⟨ks, ek, N⟩ := RepKV.ents I sm kv nd
  obtain ⟨ks', ek', N'⟩ := RepKV.ents I sm kv' nd'
  have l1 : es.size = kvs.length := by have := kv.len; rwa [Array.length_toList] at this
  have l2 : es'.size = kws.length := by have := kv'.len; rwa [Array.length_toList] at this
  refine nq_eq a1 b1 (by omega) a3 b3 N N' (n_hits I sm (by simp only [Around.in1_units]; omega) kv nd ek kv' nd' ek' c.1 c.2) ⟨.bl _, H, I, rfl, ?_⟩
  rw [l1, l2, n_all]
  exact q
theorem op_neN (hu : X.A.units + 64 < cLine) : OpR X (compareOp .NotEq) (rEqN X true) := by
  intro pins s σ H x y u v Q I rx ry h
  obtain ⟨W, a, b, es, ep, es', ep', kvs, kws, rfl, rfl, sm, ha, hb, kv, nd, kv', nd', c, q⟩ := h
  cases rx
  cases ry
  rw [Bool.and_eq_true] at c
  obtain ⟨⟨a1, a2, a3⟩, _⟩ := I.hok a _ ha
  obtain ⟨⟨b1, b2, b3⟩, _⟩ := I.hok b _ hb
  obtain ⟨ks, ek, N⟩ := RepKV.ents I sm kv nd
  obtain ⟨ks', ek', N'⟩ := RepKV.ents I sm kv' nd'
  have l1 : es.size = kvs.length := by have := kv.len; rwa [Array.length_toList] at this
  have l2 : es'.size = kws.length := by have := kv'.len; rwa [Array.length_toList] at this
  refine nq_ne a1 b1 (by omega) a3 b3 N N' (n_hits I sm (by simp only [Around.in1_units]; omega) kv nd ek kv' nd' ek' c.1 c.2) ⟨.bl _, H, I, rfl, ?_⟩
  rw [l1, l2, n_all]
  exact q
theorem op_eqD3 (hu : X.A.units + 64 < cLine) : OpR X (compareOp .Eq) (tV2 X.K X.w eqD3) := by
  refine OpR.wk (OpR.or (op_eqD' hu) (op_eqN hu)) ?_
  rintro v u H Q ⟨W, x, y, s, r1, r2, h⟩
  unfold eqD3 at h
  split at h
  · rename_i kvs kws
    simp only [Rep] at r1 r2
    obtain ⟨a, es, ep, rfl, q, l, nd⟩ := r1
    obtain ⟨b, es', ep', rfl, q', l', nd'⟩ := r2
    split at h
    · rename_i c
      exact .inr ⟨W, a, b, es, ep, es', ep', kvs, kws, rfl, rfl, s, s _ _ q, s _ _ q', l, nd, l', nd', c, h.flat s rfl⟩
    · exact h.elim
  · exact .inl ⟨W, x, y, s, r1, r2, h⟩
theorem op_neD3 (hu : X.A.units + 64 < cLine) : OpR X (compareOp .NotEq) (tV2 X.K X.w neD3) := by
  refine OpR.wk (OpR.or (op_neD' hu) (op_neN hu)) ?_
  rintro v u H Q ⟨W, x, y, s, r1, r2, h⟩
  unfold neD3 at h
  split at h
  · rename_i kvs kws
    simp only [Rep] at r1 r2
    obtain ⟨a, es, ep, rfl, q, l, nd⟩ := r1
    obtain ⟨b, es', ep', rfl, q', l', nd'⟩ := r2
    split at h
    · rename_i c
      exact .inr ⟨W, a, b, es, ep, es', ep', kvs, kws, rfl, rfl, s, s _ _ q, s _ _ q', l, nd, l', nd', c, h.flat s rfl⟩
    · exact h.elim
  · exact .inl ⟨W, x, y, s, r1, r2, h⟩
end
end DP
set_option Elab.async false
set_option linter.all false
set_option maxRecDepth 100000
/-! DP, part 53: dict(d) of a dict with int keys; constants of the module: tuples of ints. -/
namespace DP
open PySem PySem.Spec PyProof.Rows L2
open Sem (wp)
section
variable {X : Cx} {Wx : WX} {pos : Pos}
theorem ex_globTI {x : Str} {t : Addr} {ss : List Int} {ob : Obj} {its : Array Value} {n : Nat} (hg : Gl X x) (hm : X.mg x = some (.ref t)) (hk : X.K.lookup t = some ob) (h1 : ob.cls = .type "tuple") (h2 : ob.data = .seq its n) (h3 : its.size ≤ sizeLine)
    (h4 : Vals (ss.map V.int) its.toList) (hd : (x == ("__debug__" : Str)) = false := by decide) : EX X Wx (.Name x pos) (xConst (.tuple (ss.map .int))) := by
  refine ex_const (pe_glob (v := .ref t) hg hm rfl hd) fun W => ?_
  simp only [Rep]
  refine ⟨t, ss.map V.int, rfl, .inr ⟨ob, its, n, hk, h1, h2, h3, h4⟩, ?_⟩
  clear h4
  induction ss with
  | nil => exact RepL.nil
  | cons y ss ih => exact RepL.cons (by simp only [Rep]) ih
end
theorem intKV_eq : ∀ {kvs : List (D × D)} {xs : List (Int × D)}, intKV kvs = some xs → kvs = xs.map fun p => (PyData.int p.1, p.2)
  | [], _, e => by cases e; rfl
  | (k, d) :: r, xs, e => by
    cases k with
    | int i =>
      unfold intKV at e
      obtain ⟨l, e1, rfl⟩ := Option.map_eq_some_iff.mp e
      rw [List.map_cons, ← intKV_eq e1]
    | _ => cases e
theorem repkv_of {P : Program} {K : PySem.W.Frag} {w : World} {W : Hp} {xs : List (Int × D)} {ka : List (Int × Value)} (h : KA K w W xs ka) : ∀ {es : List DictEntry}, Pairs (PySem.intKind P w) es ka → (∀ e ∈ es, ∃ k, (PySem.intKind P w).is k e.key = true ∧ e.hash = (PySem.intKind P w).hash k) → RepKV K w W (xs.map fun p => (PyData.int p.1, p.2)) es := by
  induction h with
  | nil =>
    intro es hp _
    cases hp
    simp only [List.map_nil, RepKV]
  | @cons k d u v xs ka r1 r2 _ ih =>
    intro es hp hk
    cases hp with
    | @cons e _ es _ is iv hp =>
      simp only at is iv
      subst iv
      obtain ⟨k', e1, e2⟩ := hk e List.mem_cons_self
      have ek : k' = k := (PySem.intKind P w).inj _ _ _ e1 is
      subst ek
      rw [List.map_cons]
      simp only [RepKV]
      refine ⟨e, es, rfl, ⟨.num k', rfl, by simp [NestedKey.depth], e2⟩, ⟨.int k', ?_, by simp only [Rep]⟩, ⟨v, r1, r2⟩, ih hp fun e' he' => hk e' (List.mem_cons_of_mem _ he')⟩
      have is' : e.key.isInt k' = true := is
      cases q : e.key with
      | int j t =>
        rw [q] at is'
        have : j = k' := by simpa [Value.isInt] using is'
        exact ⟨t, by rw [this]⟩
      | _ => rw [q] at is'; simp [Value.isInt] at is'
def dictI : List D → Option D
  | [.dict kvs] => (intKV kvs).map fun _ => .dict kvs
  | _ => none
section
variable {X : Cx}
theorem cr_dictI (hc : X.calm = true) (hu : X.A.units + 64 < cLine) : CallR X (.type "dict") (tWn X.K X.w dictI) := by
  intro pins s σ H xs us Q I r h
  obtain ⟨W, ds, sm, rl, h⟩ := h
  unfold dictI at h
  split at h
  · rename_i kvs
    simp only [RepL, Rep] at rl
    obtain ⟨v, _, rfl, ⟨a, es, ep, rfl, q, kv, nd⟩, rfl⟩ := rl
    obtain ⟨u, rfl, rx⟩ := vals1 r
    cases rx
    cases ei : intKV kvs with
    | none => rw [ei] at h; exact h.elim
    | some xs =>
      rw [ei] at h
      obtain ⟨a1, ka, da, f1⟩ := dic_ka I (sm _ _ q) kv nd ei
      obtain ⟨⟨b1, b2, b3⟩, _⟩ := I.hok a _ (sm _ _ q)
      have hl : ka.length = es.size := by
        rw [f1.len]
        have h1 := kv.len
        rw [Array.length_toList] at h1
        have h2 := congrArg List.length (intKV_eq ei)
        rw [List.length_map] at h2
        omega
      refine PySem.kt_call_dict a1 da (by rw [hl]; exact b2) fun h' dd' hs => ?_
      obtain ⟨o, es', ep', g1, g2, g3, g4, g5, g6⟩ := dd'
      have ho : o = dobj es' ep' := by
        obtain ⟨oc, od, odat, osl⟩ := o
        obtain ⟨c1, c2, c3⟩ := g2
        simp only at c1 c2 c3 g3
        subst c1 c2 c3 g3
        rfl
      subst ho
      have hk : RepKV X.K X.w W kvs es'.toList := by
        rw [intKV_eq ei]
        exact repkv_of f1 g5 fun e he => g4 e (by simpa using he)
      have hlo : (s.heap.objs.size == sysModules) = false := beq_eq_false_iff_ne.mpr (Nat.ne_of_gt I.big)
      have hz : es'.size ≤ sizeLine := by
        have h1 := hk.len
        have h2 := kv.len
        rw [Array.length_toList] at h1 h2
        omega
      exact ⟨.ref s.heap.objs.size, _, I.laid (t' := s.toks) (fun b q hq => (hs.2 b (Nat.ne_of_lt (Heap.lt_size hq))).trans (Heap.get?_push_of_some _ hq)) (Nat.le_refl _) (dicO_new hlo hz g1), rfl, h.dic sm hk nd (I.hok.fresh (Nat.le_refl _))⟩
  · exact h.elim
end
/-! ### // by a divisor of up to 9000 bits -/
def fdivL : D → D → Option D
  | .int i, .int j => if j ≠ 0 ∧ j.natAbs.log2 < 9000 then some (.int (i.fdiv j)) else none
  | _, _ => none
section
variable {X : Cx}
theorem op_fdivLn : OpR X (binaryOp .FloorDiv) (rI (fun _ j => j ≠ 0 ∧ j.natAbs.log2 < 9000) fun i j => .int (i.fdiv j)) := opI fun _ _ _ _ _ _ _ hc q => floordiv_int hc.1 q (.inl (PyProof.noPylong_of_log2 hc.2))
theorem op_fdivL : OpR X (binaryOp .FloorDiv) (tV2 X.K X.w fdivL) := by
  refine OpR.wk op_fdivLn ?_
  rintro v u H Q ⟨W, x, y, s, r1, r2, h⟩
  unfold fdivL at h
  split at h
  · simp only [Rep] at r1 r2
    subst r1 r2
    split at h
    · rename_i c
      exact ⟨_, _, rfl, rfl, c, h.flat s rfl⟩
    · exact h.elim
  · exact h.elim
end
/-! ### a, b = [x, y] -/
def gTL (k : GLF) : GF := fun d env => match d with
  | .list ds => k ds env
  | _ => none
section
variable {X : Cx} {pos : Pos} {es : List Expr} {vs : List Nat} {k : GLF}
theorem eg_lst {j : Nat} {n : Nat} (hc : X.calm = true) (h : EGs X es vs k) (hk : ∀ ds env, (k ds env).isSome = true → ds.length = n) (hn : (assignEach es X.env).length = n := by rfl) (hst : (assignEach es X.env).findIdx? (·.1) = none := by rfl) : EG X (.Tuple es j pos) vs (gTL k) := by
  refine PG.wk (pg_lst hc h hn hst) ?_
  rintro v σ H Q ⟨ρ, W, env, A, d, env', S, r, e, q⟩
  cases d with
  | list ds =>
    simp only [Rep] at r
    obtain ⟨a, vs, rfl, q1, r1⟩ := r
    have e' : k ds env = some env' := e
    have hl := hk ds env (by rw [e']; rfl)
    exact ⟨a, vs, rfl, .of (S.sub _ _ q1), r1.len.trans hl, ρ, W, env, A, ds, env', S, r1, e, q⟩
  | _ => cases e
end
end DP
set_option Elab.async false
set_option linter.all false
set_option maxRecDepth 100000
/-! DP, part 54: exceptions as values: made, asked for their class, their at. -/
namespace DP
open PySem PySem.Spec PyProof.Rows L2
section
variable {X : Cx} {pins : List (Addr × Obj)} {σ : L2.St} {H : Hp} {s : Shared}
/-- an object that is there is told of -/
theorem inv_add {a : Addr} {o : HO} (I : Inv X pins σ H s) (ha : H a = none) (n0 : ∀ u, X.s_0.heap.get? a = some u → a ∈ X.ex) (nL : a ≠ X.env.locals) (nC : ∀ x c, X.env.cells.lookup x = some c → c ≠ a) (nP : ∀ p ∈ X.pn ++ pins, p.1 ≠ a) (ob : ObjOk X.prog X.w (upd H a o) s.heap a o) : Inv X pins σ (upd H a o) s := by
  have keep : ∀ b u, H b = some u → upd H a o b = some u := fun b u q => by
    have : b ≠ a := fun z => by rw [z, ha] at q; cases q
    rw [upd_ne this]; exact q
  refine ⟨I.ok, I.os, I.bare, ⟨I.base.keep, I.base.slot, fun b ob q n hx => ?_, I.base.there, fun b xs q => keep _ _ (I.base.tups b xs q), fun b ob u q => keep _ _ (I.base.frzs b ob u q), fun b ps q => ?_⟩, I.loc, I.cell, ?_, fun x c e => ?_, fun p hp => ?_, fun b u q => ?_, I.len⟩
  · by_cases z : b = a
    · subst z; exact absurd (n0 _ q) hx
    · rw [upd_ne z]; exact I.base.free b ob q n hx
  · obtain ⟨more, r⟩ := I.base.tbls b ps q; exact ⟨more, keep _ _ r⟩
  · rw [upd_ne (Ne.symm nL)]; exact I.free
  · rw [upd_ne (nC x c e)]; exact I.freeC x c e
  · obtain ⟨h1, h2, h3⟩ := I.pin p hp
    exact ⟨h1, by rw [upd_ne (nP p hp)]; exact h2, h3⟩
  · by_cases z : b = a
    · subst z; rw [upd_same] at q; cases q; exact ob
    · rw [upd_ne z] at q
      exact (I.hok b u q).stay (fun _ _ _ r => r) (fun c r => keep _ _ r) fun c xs r => keep _ _ r
theorem exc_ok {P : Program} {w : World} {H : Hp} {h : Heap} {a C dx : Addr} (E : excP a C dx h) : ObjOk P w H h a (excH a C dx) := by
  obtain ⟨oe, vs, e1, e2, e3, e4⟩ := E
  exact ⟨⟨oe, vs, e1, e2, e3, e4⟩, ⟨oe, e1⟩, fun h1 h2 ⟨oe, vs, f1, f2, f3, f4⟩ k => ⟨oe, vs, k _ f1, f2, f3, f4⟩⟩
theorem exc_at {a C dx : Addr} (I : Inv X pins σ H s) (h : H a = some (excH a C dx)) : excP a C dx s.heap := (I.hok a _ h).1
/-- what is there below a size is not new -/
theorem new_far {e : Addr} (I : Inv X pins σ H s) (n : s.heap.objs.size ≤ e) : (∀ u, X.s_0.heap.get? e = some u → e ∈ X.ex) ∧ e ≠ X.env.locals ∧ (∀ x c, X.env.cells.lookup x = some c → c ≠ e) ∧ ∀ p ∈ X.pn ++ pins, p.1 ≠ e := by
  have lt : ∀ {b u}, s.heap.get? b = some u → b ≠ e := fun h => Nat.ne_of_lt (Nat.lt_of_lt_of_le (Heap.lt_size h) n)
  refine ⟨fun u q => Decidable.byContradiction fun hx => ?_, ?_, fun x c q => ?_, fun p hp => lt (I.pin p hp).1⟩
  · obtain ⟨o', z⟩ := I.base.there e u q hx
    exact lt z rfl
  · obtain ⟨m, hn, _⟩ := I.loc
    exact fun z => Nat.ne_of_lt (Nat.lt_of_lt_of_le hn.lt n) z.symm
  · obtain ⟨v, hv⟩ := I.cell x c q
    obtain ⟨o, ho, _⟩ := hv
    exact lt ho
end
/-! ### made -/
def tMkE (C : Addr) (ta : TA) : TE := fun σ H Q => ta σ H fun vs H1 => ∃ v, vs = [v] ∧ ∀ e d, H1 e = none → H1 d = none → d ≠ e → Q (.ref e) (upd (upd H1 d (.xd [(("at" : Str), v)])) e (excH e C d))
section
variable {X : Cx} {Wx : WX} {B f C : Addr}
theorem pe_mkE {x : Str} {a : Expr} {ta : TA} {p pos : Pos} {k : Nat} (T : NetB X.prog X.K X.mg B f) (TC : NetC X.K B f C) (gC : X.mg x = some (.ref C)) (hr : Room k X.A) (ha : PA X [a] ta) (hg : Gl X x) (hdb : (x == ("__debug__" : Str)) = false := by decide)
    (he : starEach (a :: []) X.env = (false, eval a X.env) :: starEach [] X.env := by rfl) (hpl : (backTo pos (starEach [] X.env)).any (·.1) = false := by rfl) : PE X (.Call (.Name x p) [a] [] pos) (tMkE C ta) := by
  refine ⟨fun pins s σ H Q I h => ?_⟩
  refine wpAny_Call_Name_kw (ld_glob I hg gC ?_ hdb)
  refine PySem.W.callWith_K (h₀ := X.base) I.ok.mod.kin TC.kC (thn (ha.run pos pins s σ H _ I h) fun us s1 ⟨vs, H1, I1, r1, v, ev, q1⟩ => ⟨I1.kIn, ?_⟩) he hpl
  subst ev
  cases r1 with
  | @cons _ v' _ us' rv rn =>
    cases rn
    have hlim := I1.nolimit
    obtain ⟨mb, hb1, hb2⟩ := I1.mod.blt
    have G1 := I1.mod.glob.keeps I1.bk
    have Gb1 := hb1.keeps I1.bk
    have hb := (hb2 "super" (by decide)).trans boot_super
    have far := fun e (n : s1.heap.objs.size ≤ e) => new_far I1 n
    obtain ⟨hp, g, dr, tk, os⟩ := s1
    refine wpAny_call (net_made T TC I1.kIn G1 Gb1 hb hlim (by have := hr.dp; omega) fun h' tk' e d M => ?_)
    obtain ⟨oe, fv, hoe, hc, hd, hdat, h1⟩ := M.obj
    have ob : ObjOk X.prog X.w (upd H1 d (.xd [(("at" : Str), v)])) h' d (.xd [(("at" : Str), v)]) := ⟨_, M.ns, rel_at rv⟩
    have J : Inv X pins σ (upd H1 d (.xd [(("at" : Str), v)])) ⟨h', g, dr, tk', os⟩ := I1.laid (t' := tk') M.keep M.dbig ob
    have ne : H1 e = none := I1.hok.fresh M.new
    obtain ⟨n0, nL, nC, nP⟩ := far e M.new
    have J2 := inv_add (o := excH e C d) J (by rw [upd_ne (Ne.symm M.dne)]; exact ne) n0 nL nC nP (exc_ok ⟨oe, fv, hoe, hc, hd, hdat⟩)
    exact ⟨.ref e, _, J2, rfl, q1 e d ne (I1.hok.fresh M.dbig) M.dne⟩
/-! ### expressions whose values are exceptions -/
theorem repE_tup {K : PySem.W.Frag} {w : World} {W : Hp} {ds : List D} {v : V} : RepE K w W (.tuple ds) v = RepE1 K w W (.tuple ds) v := by
  unfold RepE
  rfl
abbrev EE (X : Cx) (Wx : WX) (e : Expr) (f : XF) : Prop := PE X e (tG X.K X.w X.mg Wx (RepE X.K X.w) f)
def xMkE (x : Str) (g : AF) : XF := fun env => (g env).bind fun r => match r.1 with
  | [d] => .ok (.tuple [.str x, d], r.2)
  | _ => .bad
def xVarE (i : Nat) : XF := fun env => match env[i]? with
  | some (.xe d) => .ok (d, env)
  | _ => .bad
theorem ee_mk {x : Str} {a : Expr} {g : AF} {p pos : Pos} {k : Nat} (T : NetB X.prog X.K X.mg B f) (TC : NetC X.K B f C) (gC : X.mg x = some (.ref C)) (nC : PySem.W.nsIn X.K mainGlobals x = some (some (.ref C))) (hr : Room k X.A) (ha : EA X Wx [a] g) (hg : Gl X x) (hdb : (x == ("__debug__" : Str)) = false := by decide)
    (he : starEach (a :: []) X.env = (false, eval a X.env) :: starEach [] X.env := by rfl) (hpl : (backTo pos (starEach [] X.env)).any (·.1) = false := by rfl) : EE X Wx (.Call (.Name x p) [a] [] pos) (xMkE x g) := by
  refine PE.wk (pe_mkE T TC gC hr ha hg hdb he hpl) ?_
  rintro σ H Q ⟨ρ, W, env, A, S, h⟩
  refine tG_then S h fun ds W1 H1 env1 A1 vs S1 F1 r1 h1 => ?_
  dsimp only at h1
  split at h1
  · rename_i ds' d
    simp only [RepL] at r1
    obtain ⟨v, _, rfl, r1, rfl⟩ := r1
    refine ⟨v, rfl, fun e dx n1 n2 ne => ?_⟩
    have E1 := Ex.one (o := .xd [(("at" : Str), v)]) S1.sub n2
    have n1' : upd H1 dx (.xd [(("at" : Str), v)]) e = none := by rw [upd_ne (Ne.symm ne)]; exact n1
    have E2 := Ex.one (o := excH e C dx) E1.sub n1'
    have E := E1.trans E2
    refine h1 _ _ A1 (.ref e) (S1.ex E) (E.fr _) ?_
    rw [repE_tup]
    exact ⟨e, C, dx, v, rfl, nC, upd_same, by rw [upd_ne ne, upd_same], Rep.mono E.ext _ _ r1⟩
  · exact h1.elim
theorem ee_var {i : Nat} {x : Str} {pos : Pos} (h : PE X (.Name x pos) (tVar i)) : EE X Wx (.Name x pos) (xVarE i) := by
  refine PE.wk h ?_
  rintro σ H Q ⟨ρ, W, env, A, S, h⟩
  unfold xVarE at h
  split at h
  · rename_i d e
    obtain ⟨v, l, h1, h2, h3⟩ := S.at e
    obtain ⟨_, x, rfl, r⟩ := h3
    exact ⟨x, h1, h W H A x S (Fr.refl _ _ _) r⟩
  · exact h.elim
end
end DP
set_option Elab.async false
set_option linter.all false
set_option maxRecDepth 100000
/-! DP, part 55: isinstance of an exception, and its at. -/
namespace DP
open PySem PySem.Spec PyProof.Rows L2
/-- what is asked of a class of errors -/
structure NetX (K : PySem.W.Frag) (B f C : Addr) : Prop where
  net : NetC K B f C
  cl : PySem.W.findIn K (.ref C) "__class__" = some (some (.builtin "object.__class__"))
  ob : PySem.W.mroIn K C (.type "object") = some true
  ge : PySem.W.specialIn K (.builtin "object.__class__") "__get__" = some (some (.builtin "getset_descriptor.__get__"))
  tk : PySem.W.takesIn K (.builtin "object.__class__") = some true
def rIsX (K : PySem.W.Frag) : List V → Hp → VK → Prop := fun xs H Q => ∃ (a C dx B f : Addr) (fs : List (Str × V)) (c : V) (u : Value) (b : Bool), xs = [.ref a, c] ∧ ClsV c u ∧ NetX K B f C ∧ H a = some (excH a C dx) ∧ H dx = some (.xd fs) ∧ PySem.W.kitOne K (.ref C) u = some b ∧ Q (.bl b) H
section
variable {X : Cx} {Wx : WX}
theorem cr_isX : CallR X (.builtin "isinstance") (rIsX X.K) := by
  intro pins s σ H xs us Q I r h
  obtain ⟨a, C, dx, B, f, fs, c, u, b, rfl, k, T, h1, h2, e, q⟩ := h
  obtain ⟨u1, u2, rfl, r1, r2⟩ := vals2 r
  cases r1
  have e2 := k.eq r2
  subst e2
  obtain ⟨oe, vs, g1, g2, g3, g4⟩ := exc_at I h1
  obtain ⟨mA, hns, _⟩ := (I.hok dx _ h2 : ObjOk X.prog X.w H s.heap dx (.xd fs))
  obtain ⟨od, ho, _⟩ := lookIn_ns hns
  obtain ⟨cd, hc, _⟩ := PySem.W.any_some T.net.hdC
  have J : PySem.W.InstAt s.heap a oe C (some od) := ⟨g1, g2, by unfold PySem.W.notCls; rw [g4], by rw [g3]; exact ho⟩
  exact PySem.W.kia_one (PySem.W.kitx_exc (od := some od) (ox := oe) (by rw [hc]; rfl) T.net.ga T.net.gg T.net.exC T.cl T.ge T.tk T.ob) I.kIn J e (fun z => nomatch z) fun tk => ⟨.bl b, H, I.tok tk, rfl, q⟩
/-- isinstance(e, c): T tells by the names -/
def xIsE (T : Str → Option Bool) (f : XF) : XF := fun env => (f env).bind fun r => match r.1 with
  | .tuple [.str c, _] => (match T c with
    | some b => .ok (.bool b, r.2)
    | none => .bad)
  | _ => .bad
theorem tG_in {α β γ δ : Type} {K : PySem.W.Frag} {w : World} {mg : Str → Option Value} {R : Hp → α → β → Prop} {R' : Hp → γ → δ → Prop} {ρ : Nat → Addr} {σ : L2.St} {W H : Hp} {A : List (List Addr)} {d : γ} {env : Ev} {v : δ} {Q : δ → Hp → Prop} (S : SR K w ρ W H env σ A) (h : onG K w mg Wx R' ρ σ W H A (.ok (d, env)) Q) (r : R' W d v) : Q v H := h W H A v S (Fr.refl _ _ _) r
theorem ex_isE {a b : Expr} {f : XF} {T : Str → Option Bool} {cv : V} {u : Value} {p pos : Pos} (ha : EE X Wx a f) (hb : PE X b (tC cv)) (k : ClsV cv u) (hT : ∀ c C z, T c = some z → PySem.W.nsIn X.K mainGlobals c = some (some (.ref C)) → ∃ B g, NetX X.K B g C ∧ PySem.W.kitOne X.K (.ref C) u = some z)
    (hg : Gl X "isinstance") (hm : X.mg "isinstance" = none) (hs : starEach [a, b] X.env = (false, eval a X.env) :: starEach [b] X.env := by rfl) (hs2 : starEach [b] X.env = (false, eval b X.env) :: starEach [] X.env := by rfl) (hpl : (backTo pos (starEach [b] X.env)).any (·.1) = false := by rfl) :
    EX X Wx (.Call (.Name "isinstance" p) [a, b] [] pos) (xIsE T f) := by
  refine PE.wk (pe_callB cr_isX hg hm (by rfl) (pa_cons ha (pa_cons hb pa_nil hs2) hs) (by decide) (by decide) hs hpl) ?_
  rintro σ H Q ⟨ρ, W, env, A, S, h⟩
  refine tG_then S h fun d W1 H1 env1 A1 v S1 F1 r1 h1 => ?_
  dsimp only at h1
  split at h1
  · rename_i d0 c x
    split at h1
    · rename_i z ez
      obtain ⟨e, C, dx, y, rfl, n, g1, g2, _⟩ := (repE_tup ▸ r1 : RepE1 X.K X.w W1 (.tuple [.str c, x]) v)
      obtain ⟨B, g, N, kk⟩ := hT c C z ez n
      exact ⟨e, C, dx, B, g, _, cv, u, z, rfl, k, N, S1.sub _ _ g1, S1.sub _ _ g2, kk, h1 W1 H1 A1 _ S1 (Fr.refl _ _ _) (by simp only [Rep])⟩
    · exact h1.elim
  · exact h1.elim
/-- e.at -/
def xAtE (kn : Str → Bool) (f : XF) : XF := fun env => (f env).bind fun r => match r.1 with
  | .tuple [.str c, d] => if kn c = true then .ok (d, r.2) else .bad
  | _ => .bad
theorem pe_atX {e : Expr} {te : TE} {pos : Pos} (he : PE X e te) (hb : attributeBase e "at" X.env (eval e X.env) = eval e X.env := by rfl) :
    PE X (.Attribute e "at" pos) (fun σ H Q => te σ H fun x H1 => ∃ a B f C dx v, x = .ref a ∧ NetC X.K B f C ∧ H1 a = some (excH a C dx) ∧ H1 dx = some (.xd [(("at" : Str), v)]) ∧ Q v H1) := by
  refine ⟨fun pins s σ H Q I h => attr_of hb (thn (he.run pins s σ H _ I h) fun u s1 ⟨x, H1, I1, rx, a, B, f, C, dx, v, ex, T, e1, ea, q⟩ => ?_)⟩
  subst ex
  obtain rfl : u = Value.ref a := rx
  obtain ⟨oe, vs, g1, g2, g3, g4⟩ := exc_at I1 e1
  obtain ⟨mA, hns, hr⟩ := (I1.hok dx _ ea : ObjOk X.prog X.w H1 s1.heap dx (.xd [(("at" : Str), v)]))
  obtain ⟨od, ho, hl⟩ := lookIn_ns hns
  have l : List.lookup ("at" : Str) [(("at" : Str), v)] = some v := by simp [List.lookup]
  obtain ⟨u, hu, ru⟩ := RelO.some_of (v := v) (o := mA "at") (by rw [← l]; exact hr "at")
  refine HandSPX.exc_get I1.kIn (od := some od) ⟨g1, g2, by unfold PySem.W.notCls; rw [g4], by rw [g3]; exact ho⟩ T.ga T.gg T.exC (PySem.W.findObj_own T.hdC T.noN rfl (by rw [hl, hu])) (handed_of ru) ⟨v, H1, I1.tok _, ru, q⟩
theorem ex_atE {a : Expr} {f : XF} {kn : Str → Bool} {pos : Pos} (ha : EE X Wx a f) (hT : ∀ c C, kn c = true → PySem.W.nsIn X.K mainGlobals c = some (some (.ref C)) → ∃ B g, NetX X.K B g C) (hb : attributeBase a "at" X.env (eval a X.env) = eval a X.env := by rfl) :
    EX X Wx (.Attribute a "at" pos) (xAtE kn f) := by
  refine PE.wk (pe_atX ha hb) ?_
  rintro σ H Q ⟨ρ, W, env, A, S, h⟩
  refine tG_then S h fun d W1 H1 env1 A1 v S1 F1 r1 h1 => ?_
  dsimp only at h1
  split at h1
  · rename_i d0 c x
    split at h1
    · rename_i kc
      obtain ⟨e, C, dx, y, rfl, n, g1, g2, rx⟩ := (repE_tup ▸ r1 : RepE1 X.K X.w W1 (.tuple [.str c, x]) v)
      obtain ⟨B, g, N⟩ := hT c C kc n
      exact ⟨e, B, g, C, dx, y, rfl, N.net, S1.sub _ _ g1, S1.sub _ _ g2, h1 W1 H1 A1 _ S1 (Fr.refl _ _ _) rx⟩
    · exact h1.elim
  · exact h1.elim
/-- isinstance(x, t), x an int, t a built-in type -/
def xIsI (b : Bool) (f : XF) : XF := fun env => (f env).bind fun r => match r.1 with
  | .int _ => .ok (.bool b, r.2)
  | _ => .bad
theorem ex_isI {a c : Expr} {f : XF} {t : String} {b : Bool} {p pos : Pos} (ha : EX X Wx a f) (hb : PE X c (tC (.ty t))) (hk : kitB "int" t = some b)
    (hg : Gl X "isinstance") (hm : X.mg "isinstance" = none) (hs : starEach [a, c] X.env = (false, eval a X.env) :: starEach [c] X.env := by rfl) (hs2 : starEach [c] X.env = (false, eval c X.env) :: starEach [] X.env := by rfl) (hpl : (backTo pos (starEach [c] X.env)).any (·.1) = false := by rfl) :
    EX X Wx (.Call (.Name "isinstance" p) [a, c] [] pos) (xIsI b f) := by
  refine PE.wk (pe_callB call_isi hg hm (by rfl) (pa_cons ha (pa_cons hb pa_nil hs2) hs) (by decide) (by decide) hs hpl) ?_
  rintro σ H Q ⟨ρ, W, env, A, S, h⟩
  refine tG_then S h fun d W1 H1 env1 A1 v S1 F1 r1 h1 => ?_
  dsimp only at h1
  split at h1
  · rename_i i
    simp only [Rep] at r1
    subst r1
    exact ⟨.int i, .ty t, .type "int", .type t, b, rfl, .ty t, .base (.int i), kit_ty hk, h1 W1 H1 A1 _ S1 (Fr.refl _ _ _) (by simp only [Rep])⟩
  · exact h1.elim
/-- e is not None -/
def xSomeE (f : XF) : XF := fun env => (f env).bind fun r => match r.1 with
  | .tuple [.str _, _] => .ok (.bool true, r.2)
  | _ => .bad
/-- len(es), es[i] -/
def xLenE (f : XF) : XF := fun env => (f env).bind fun r => match r.1 with
  | .list ds => .ok (.int ds.length, r.2)
  | _ => .bad
def xIxE (f g : XF) : XF := fun env => (f env).bind fun r => (g r.2).bind fun q => match r.1, q.1 with
  | .list ds, .int i => (match atI ds i with
    | some d => .ok (d, q.2)
    | none => .bad)
  | _, _ => .bad
end
end DP
set_option Elab.async false
set_option linter.all false
set_option maxRecDepth 100000
/-! DP, part 56: lists of exceptions; calls and defs that take or give exceptions. -/
namespace DP
open PySem PySem.Spec PyProof.Rows L2
section
variable {K : PySem.W.Frag} {w : World} {W : Hp}
theorem RepE1.toE {d : D} {v : V} (h : RepE1 K w W d v) : RepE K w W d v := by
  cases d with
  | tuple ds => rw [repE_tup]; exact h
  | list ds => exact h.elim
  | none => exact h.elim
  | bool b => exact h.elim
  | int i => exact h.elim
  | str s => exact h.elim
  | dict kvs => exact h.elim
theorem RepEL.len : ∀ {ds : List D} {vs : List V}, RepEL K w W ds vs → vs.length = ds.length
  | [], _, h => by cases (show _ = [] from h); rfl
  | d :: ds, _, ⟨v, r, h1, _, h3⟩ => by rw [h1, List.length_cons, List.length_cons, RepEL.len h3]
theorem RepEL.at : ∀ {ds : List D} {vs : List V} {i : Nat} {d : D}, RepEL K w W ds vs → ds[i]? = some d → ∃ v, vs[i]? = some v ∧ RepE1 K w W d v
  | [], _, i, d, _, e => by simp at e
  | d0 :: ds, _, 0, d, ⟨v, r, h1, h2, h3⟩, e => by
    simp at e
    subst e
    exact ⟨v, by rw [h1]; rfl, h2⟩
  | d0 :: ds, _, i + 1, d, ⟨v, r, h1, h2, h3⟩, e => by
    simp at e
    obtain ⟨v', a, b⟩ := RepEL.at h3 e
    exact ⟨v', by rw [h1]; simpa using a, b⟩
theorem repE_list {ds : List D} {v : V} : RepE K w W (.list ds) v = ∃ a vs, v = .ref a ∧ W a = some (.lst vs) ∧ RepEL K w W ds vs := by
  unfold RepE
  rfl
end
section
variable {X : Cx} {Wx : WX} {a b e : Expr} {es : List Expr} {f g : XF} {pos p : Pos}
theorem ee_ix (ha : EE X Wx a f) (hb : EX X Wx b g) (hs : PlainIx b) : EE X Wx (.Subscript a b pos) (xIxE f g) := by
  refine PE.wk (pe_ix ix_list ha hb hs) ?_
  rintro σ H Q ⟨ρ, W, env, A, S, h⟩
  unfold xIxE at h
  refine tG_then S h fun d W1 H1 env1 A1 v S1 F1 r1 h1 => ?_
  refine tG_then S1 h1 fun d2 W2 H2 env2 A2 u S2 F2 r2 h2 => ?_
  dsimp only at h2
  split at h2
  · rename_i ds i
    rw [repE_list] at r1
    obtain ⟨q, vs, rfl, m, l⟩ := r1
    simp only [Rep] at r2
    subst r2
    split at h2
    · rename_i d' e'
      have e2 : (ixN ds.length i).bind (fun j => ds[j]?) = some d' := e'
      obtain ⟨j, e3, e4⟩ := Option.bind_eq_some_iff.mp e2
      obtain ⟨v', e5, r5⟩ := l.at e4
      refine ⟨q, vs, i, v', rfl, rfl, .of (S2.sub _ _ (F2.ext _ _ m)), ?_, h2 W2 H2 A2 v' S2 (Fr.refl _ _ _) (r5.mono F2.ext).toE⟩
      show (ixN vs.length i).bind (fun j => vs[j]?) = some v'
      rw [l.len, e3]
      exact e5
    · exact h2.elim
  · exact h2.elim
theorem ex_lenE (ha : EE X Wx a f) (hg : Gl X "len") (hm : X.mg "len" = none) (hs : starEach [a] X.env = (false, eval a X.env) :: starEach [] X.env := by rfl) (hpl : (backTo pos (starEach [] X.env)).any (·.1) = false := by rfl) : EX X Wx (.Call (.Name "len" p) [a] [] pos) (xLenE f) := by
  refine PE.wk (pe_callB call_len_seq hg hm (by rfl) (pa_cons ha pa_nil hs) (by decide) (by decide) hs hpl) ?_
  rintro σ H Q ⟨ρ, W, env, A, S, h⟩
  unfold xLenE at h
  refine tG_then S h fun d W1 H1 env1 A1 v S1 F1 r1 h1 => ?_
  dsimp only at h1
  split at h1
  · rename_i ds
    rw [repE_list] at r1
    obtain ⟨q, vs, rfl, m, l⟩ := r1
    exact ⟨q, vs, rfl, .inl (.of (S1.sub _ _ m)), h1 W1 H1 A1 _ S1 (Fr.refl _ _ _) (by simp only [Rep]; rw [l.len])⟩
  · exact h1.elim
theorem ex_someE {j : Nat} (ha : EE X Wx a f) : EX X Wx (.Compare a [.IsNot] [.Constant .none j p] pos) (xSomeE f) := by
  refine PE.wk (pe_cmp (pc_notN ha)) ?_
  rintro σ H Q ⟨ρ, W, env, A, S, h⟩
  unfold xSomeE at h
  refine tG_then S h fun d W1 H1 env1 A1 v S1 F1 r1 h1 => ?_
  dsimp only at h1
  split at h1
  · rename_i c x
    obtain ⟨e, C, dx, y, rfl, n, g1, g2, rx⟩ := (repE_tup ▸ r1 : RepE1 X.K X.w W1 (.tuple [.str c, x]) v)
    exact h1 W1 H1 A1 _ S1 (Fr.refl _ _ _) (by simp only [Rep]; rw [decide_eq_false (fun z => by cases z)]; rfl)
  · exact h1.elim
/-- name = an exception, exceptions -/
def sSetE (i : Nat) (f : XF) : SF := fun env => (f env).bind fun r => .ok (.nx, r.2.set i (.xe r.1))
theorem es_setE {i : Nat} {x : Str} {p2 : Pos} (hN : X.N.Nodup) (hi : X.N[i]? = some x) (hx : Loc X.env.scope x) (h : EE X Wx e f) (hs : swapsWith e (some (.Name x p2)) pos.line X.env = pure false := by rfl)
    (hf : X.fn x = true ∨ X.env.scope.names.lookup x = some .local := by first | exact .inl rfl | exact .inr rfl | assumption) : ES X Wx (.Assign [.Name x p2] e pos) (sSetE i f) := by
  refine PS.wk (ps_set hN hi hx h hs hf) ?_
  rintro D σ H ⟨ρ, W, env, A, S, h⟩
  exact tS_then S h fun d W1 H1 env1 A1 v S1 F1 r1 h1 => h1 W1 H1 _ _ (S1.put i ⟨rfl, v, rfl, r1⟩ fun _ _ _ _ _ _ h => nomatch h) (fr_nil i)
/-! ### lists of new exceptions -/
abbrev EEs (X : Cx) (Wx : WX) (es : List Expr) (f : AF) : Prop := PA X es (tG X.K X.w X.mg Wx (RepEL X.K X.w) f)
theorem ees_nil : EEs X Wx [] aNil := by
  refine PA.wk pa_nil ?_
  rintro σ H Q ⟨ρ, W, env, A, S, h⟩
  exact h W H A [] S (Fr.refl _ _ _) rfl
def aConsE (f : XF) (g : AF) : AF := fun env => (f env).bind fun r => (g r.2).bind fun q => match r.1 with
  | .tuple ds => .ok (.tuple ds :: q.1, q.2)
  | _ => .bad
theorem ees_cons {g : AF} (ha : EE X Wx a f) (hr : EEs X Wx es g) (hs : starEach (a :: es) X.env = (false, eval a X.env) :: starEach es X.env := by rfl) : EEs X Wx (a :: es) (aConsE f g) := by
  refine PA.wk (pa_cons ha hr hs) ?_
  rintro σ H Q ⟨ρ, W, env, A, S, h⟩
  unfold aConsE at h
  refine tG_then S h fun d W1 H1 env1 A1 v S1 F1 r1 h1 => ?_
  refine tG_then S1 h1 fun ds W2 H2 env2 A2 vs S2 F2 r2 h2 => ?_
  dsimp only at h2
  split at h2
  · rename_i ts
    exact h2 W2 H2 A2 (v :: vs) S2 (Fr.refl _ _ _) ⟨v, vs, rfl, (repE_tup ▸ r1 : RepE1 X.K X.w W1 (.tuple ts) v).mono F2.ext, r2⟩
  · exact h2.elim
def xLstE (g : AF) : XF := fun env => (g env).bind fun r => if r.1.length ≤ 10000 then .ok (.list r.1, r.2) else .bad
theorem ee_lst {g : AF} (h : EEs X Wx es g) : EE X Wx (.List es pos) (xLstE g) := by
  refine PE.wk (pe_lst h) ?_
  rintro σ H Q ⟨ρ, W, env, A, S, h⟩
  unfold xLstE at h
  refine tG_then S h fun ds W1 H1 env1 A1 vs S1 F1 r1 h1 => ?_
  dsimp only at h1
  split at h1
  · rename_i c
    refine ⟨by rw [r1.len, sizeLine_eq]; omega, fun q n => ?_⟩
    have E := Ex.one (o := .lst vs) S1.sub n
    refine h1 _ _ A1 (.ref q) (S1.ex E) (E.fr _) ?_
    rw [repE_list]
    exact ⟨q, vs, rfl, upd_same, r1.mono E.ext⟩
  · exact h1.elim
end
/-! ### defs that give exceptions -/
def spY (K : PySem.W.Frag) (w : World) (n : Nat) (F : FD) : Sp := fun vs H Q _ => ∃ W ds d, Same W H ∧ RepL K w W ds vs ∧ ds.length = n ∧ F ds = .ok d ∧ ∀ W' H' v, Ex W H W' H' → RepE K w W' d v → Q v H'
structure DefY (P : Program) (w : World) (K : PySem.W.Frag) (mg : Str → Option Value) (base : Heap) (k : Nat) (x : Str) (ps : List Str) (F : FD) : Prop where
  ex : ∃ f fd, FnG P w K mg base k f fd ps (spY K w ps.length F) ∧ mg x = some (.ref f) ∧ PySem.W.keepIn K (.ref f) = true ∧ Binds K fd ps []
def xCallY (n : Nat) (F : FD) (g : AF) : XF := fun env => (g env).bind fun r => if r.1.length = n then (match F r.1 with
  | .ok d => .ok (d, r.2)
  | _ => .bad) else .bad
section
variable {X : Cx} {Wx : WX} {k j : Nat} {ps : List Str} {F : FD} {x : Str} {p pos : Pos} {e : Expr} {es : List Expr} {g : AF} {f : XF}
theorem ee_callY (d : DefY X.prog X.w X.K X.mg X.base k x ps F) (hr : Room j X.A) (hk : k ≤ j) (hq : X.A.guards = some []) (hg : Gl X x) (tk : Takes X Wx) (ha : EA X Wx (e :: es) g)
    (hdb : (x == ("__debug__" : Str)) = false := by decide) (he : starEach (e :: es) X.env = (false, eval e X.env) :: starEach es X.env := by rfl) (hpl : (backTo pos (starEach es X.env)).any (·.1) = false := by rfl) :
    EE X Wx (.Call (.Name x p) (e :: es) [] pos) (xCallY ps.length F g) := by
  obtain ⟨f, fd, G, h1, h2, h3⟩ := d.ex
  refine PE.wk (pe_callG (E := fun σ cls d H => Wx cls d σ H) G (hr.mono hk) hq hg h1 h2 h3 (fun σ => passAt tk σ) ha hdb he hpl) ?_
  rintro σ H Q ⟨ρ, W, env, A, S, h⟩
  unfold xCallY at h
  refine tG_then S h fun ds W1 H1 env1 A1 vs S1 F1 r1 h1 => ?_
  dsimp only at h1
  split at h1
  · rename_i hn
    split at h1
    · rename_i d ed
      rw [List.append_nil]
      exact ⟨W1, ds, d, S1.sub, r1, hn, ed, fun W' H' v ex r => h1 W' H' A1 v (S1.ex ex) (ex.fr _) r⟩
    · exact h1.elim
  · exact h1.elim
/-! ### defs that take an exception -/
def spK (K : PySem.W.Frag) (w : World) (F : D → Option D) : Sp := fun vs H Q _ => ∃ W d v r, vs = [v] ∧ Same W H ∧ RepE K w W d v ∧ F d = some r ∧ ∀ W' H' u, Ex W H W' H' → Rep K w W' r u → Q u H'
structure DefK (P : Program) (w : World) (K : PySem.W.Frag) (mg : Str → Option Value) (base : Heap) (k : Nat) (x : Str) (ps : List Str) (F : D → Option D) : Prop where
  ex : ∃ f fd, FnG P w K mg base k f fd ps (spK K w F) ∧ mg x = some (.ref f) ∧ PySem.W.keepIn K (.ref f) = true ∧ Binds K fd ps []
def xCallK (F : D → Option D) (f : XF) : XF := fun env => (f env).bind fun r => match F r.1 with
  | some d => .ok (d, r.2)
  | none => .bad
theorem ex_callK {F : D → Option D} (d : DefK X.prog X.w X.K X.mg X.base k x ps F) (hr : Room j X.A) (hk : k ≤ j) (hq : X.A.guards = some []) (hg : Gl X x) (tk : Takes X Wx) (ha : EE X Wx e f)
    (hdb : (x == ("__debug__" : Str)) = false := by decide) (he : starEach [e] X.env = (false, eval e X.env) :: starEach [] X.env := by rfl) (hpl : (backTo pos (starEach [] X.env)).any (·.1) = false := by rfl) :
    EX X Wx (.Call (.Name x p) [e] [] pos) (xCallK F f) := by
  obtain ⟨fa, fd, G, h1, h2, h3⟩ := d.ex
  refine PE.wk (pe_callG (E := fun σ cls d H => Wx cls d σ H) G (hr.mono hk) hq hg h1 h2 h3 (fun σ => passAt tk σ) (pa_cons ha pa_nil he) hdb he hpl) ?_
  rintro σ H Q ⟨ρ, W, env, A, S, h⟩
  unfold xCallK at h
  refine tG_then S h fun d W1 H1 env1 A1 v S1 F1 r1 h1 => ?_
  dsimp only at h1
  split at h1
  · rename_i r er
    exact ⟨W1, d, v, r, rfl, S1.sub, r1, er, fun W' H' u ex rr => h1 W' H' A1 u (S1.ex ex) (ex.fr _) rr⟩
  · exact h1.elim
end
section
variable {P : Program} {w : World} {K : PySem.W.Frag} {mg : Str → Option Value} {base : Heap} {k : Nat} {f : Addr} {fd : FuncData} {N : List Str}
theorem SR.start1 {ρ : Nat → Addr} {W H : Hp} {sl : Sl} {v : V} (sm : Same W H) (r : SlR K w ρ W H sl (some v) []) (hN : 1 ≤ N.length) : SR K w ρ W H (sl :: List.replicate (N.length - 1) .no) (L2.start N [v]) (List.replicate (L2.start N [v]).length []) := by
  have hst : (L2.start N [v]).length = N.length := by
    unfold L2.start
    simp only [List.length_append, List.length_map, List.length_replicate, List.length_cons, List.length_nil]
    omega
  refine ⟨sm, ?_, by simp, fun i s u l h1 h2 h3 => ?_, fun i j l m q h1 h2 h3 _ => absurd ⟨i, l, h1, h3⟩ (own_none q)⟩
  · rw [hst, List.length_cons, List.length_replicate]
    omega
  · rw [List.getElem?_replicate] at h3
    split at h3
    · cases h3
      cases i with
      | zero =>
        unfold L2.start at h2
        simp at h1 h2
        subst h1 h2
        exact r
      | succ i =>
        rw [List.getElem?_cons_succ, List.getElem?_replicate] at h1
        split at h1
        · cases h1
          exact rfl
        · cases h1
    · cases h3
def runK (n : Nat) (B : SF) (d : D) : Option D := match B (.xe d :: List.replicate (n - 1) .no) with
  | .ok (.rt r, _) => some r
  | _ => none
theorem fnG_K {x qual : Str} {st : Stmt} {ps : List Str} {B : SF} (Fn : Fun K x qual st f fd) (S : FnScope N ps (defScope st)) (h1 : ps.length = 1) (hN : 1 ≤ N.length)
    (body : ∀ (cdv : Value) (A : Around) (outer : List Env) (s : Shared) (H : Hp) (E : XK), Room k (A.deeper (envOfC qual (defScope st) s.heap.objs.size f cdv)) → A.guards = some [] →
      EB (cxOf (L2.CX P w) P w K mg base N qual (defScope st) f cdv A outer s H E) (fun cls d _ H => E cls d H) (defBody st) B) : FnG P w K mg base (k + 1) f fd ps (spK K w (runK N.length B)) := by
  refine fnG_of Fn S (fun vs H Q E h => ?_) fun cdv A outer s H vs Q E hr hg h => ⟨_, body cdv A outer s H E hr hg, ?_⟩
  · obtain ⟨W, d, v, r, rfl, _⟩ := h
    exact h1.symm
  · obtain ⟨W, d, v, r, rfl, sm, rd, hF, h⟩ := h
    refine ⟨fun _ => 0, W, _, _, SR.start1 (sl := .xe d) sm ⟨rfl, v, rfl, rd⟩ hN, ?_⟩
    unfold runK at hF
    split at hF
    · rename_i r' env' eb
      cases hF
      rw [eb]
      exact fun W' H' A' σ' S' F' u ru => h W' H' u (F'.ex own_none S'.sub) ru
    · cases hF
def runY (n : Nat) (f : XF) (ds : List D) : Out D := match f (ds.map .fz ++ List.replicate (n - ds.length) .no) with
  | .ok (d, _) => .ok d
  | _ => .bad
theorem fnG_Y {x qual : Str} {st : Stmt} {ps : List Str} {g : XF} {e : Expr} {pos : Pos} (Fn : Fun K x qual st f fd) (S : FnScope N ps (defScope st)) (hb : defBody st = [.Return (some e) pos])
    (body : ∀ (cdv : Value) (A : Around) (outer : List Env) (s : Shared) (H : Hp) (E : XK), Room k (A.deeper (envOfC qual (defScope st) s.heap.objs.size f cdv)) → A.guards = some [] →
      EE (cxOf (L2.CX P w) P w K mg base N qual (defScope st) f cdv A outer s H E) (fun cls d _ H => E cls d H) e g) : FnG P w K mg base (k + 1) f fd ps (spY K w ps.length (runY N.length g)) := by
  refine fnG_of Fn S (fun vs H Q E h => ?_) fun cdv A outer s H vs Q E hr hg h => ⟨_, hb ▸ pss_one (ps_ret (body cdv A outer s H E hr hg)), ?_⟩
  · obtain ⟨W, ds, d, _, r, hl, _⟩ := h
    exact r.len.trans hl
  · obtain ⟨W, ds, d, sm, r, hl, hF, h⟩ := h
    refine ⟨fun _ => 0, W, _, _, SR.start sm r, ?_⟩
    unfold runY at hF
    split at hF
    · rename_i d' env' eb
      cases hF
      rw [eb]
      exact fun W' H' A' v S' F' rv => h W' H' v (F'.ex own_none S'.sub) rv
    · cases hF
end
end DP
set_option Elab.async false
set_option linter.all false
set_option maxRecDepth 100000
/-! DP, part 57: try: .. except C as e: return e; a class whose making raises. -/
namespace DP
open PySem PySem.Spec PyProof.Rows L2
/-- what the clause wants of an exception of the body -/
def wR (K : PySem.W.Frag) (c : Value) (D : Ends) : WX := fun cls d σ H => PySem.W.exmOne K cls c = some true ∧ ∃ C dx, cls = .ref C ∧ d = some dx ∧ ∀ a, H a = none → D.rt (.ref a) (upd H a (excH a C dx))
section
variable {X : Cx} {body : List Stmt} {pos pos' np p1 p2 : Pos} {tb : WX → TS} {n x : Str} {i : Nat} {c : Value}
theorem ps_tryR (hs : X.stack = X.env :: X.outer) (hf : X.env.frame = some X.env.locals) (hN : X.N.Nodup)
    (hb : ∀ (W : WX) (pn : List (Addr × Obj)) (xe : Value → Shared → Prop), Takes (X.tr pn xe) W → PassesOwn (model X.prog X.w) X.A X.env xe → PSs (X.tr pn xe) body (tb W))
    (hi : X.N[i]? = some n) (hl : X.env.kindOf n = some .local) (hc : Names X x c) (hv : ∀ a oe pn, PE (X.suite a ((a, oe) :: pn)) (.Name n p1) (tVar i)) :
    PS X (.Try body [.ExceptHandler (some (.Name x np)) (some n) [.Return (some (.Name n p1)) p2] pos'] [] [] pos) (fun D σ H => tb (wR X.K c D) D σ H) := by
  refine ⟨fun pins s σ H D I h => ?_⟩
  have ok := I.ok
  have hfr : X.A.frames = some (X.env :: X.outer) := by rw [ok.frames, hs]
  refine wpAny_Try_except (wpAny_mono ((hb (wR X.K c D) (X.pn ++ pins) (fun e z₁ => wpAny (model X.prog X.w) X.A (noteFrame e X.env) (fun _ z₂ => wpAny (model X.prog X.w) X.A (setFlight e none)
    (fun _ z₃ => wpAny (model X.prog X.w) X.A (handleBy e X.env [.ExceptHandler (some (.Name x np)) (some n) [.Return (some (.Name n p1)) p2] pos']) (SP X pins D) X.xe z₃) X.xe z₂) X.xe z₁) (fun u s' air => ?_) PassesOwn.looking).run [] s σ H D (I.toTry _) h) (fun fl s1 fin => ?_) fun _ _ z => z)
  · obtain ⟨a, Bh, sI, pins', σ', H', cls, d, rfl, J', nb, up, sky, na, os, ag, want⟩ := air
    have J := J'.ofTry ok
    have sky' : Sky Bh (X.env :: X.outer) a (Zc cls d) X.env.locals s'.heap := hs ▸ sky
    refine (Sky.land Zc.steady hfr hf sky' fun g3 f3 u3 => ?_ : wpAny (model X.prog X.w) X.A (noteFrame (.ref a) X.env) _ _ _)
    have J3 : Inv X pins σ' H' { s' with heap := g3 } := J.landed nb f3.1 (up.trans u3) os ag
    obtain ⟨o3, v3, he3, hz3, hd3⟩ := f3.there
    have away : a ∉ frs (X.env :: X.outer) := fun hm => by
      obtain ⟨_, o', e', nf⟩ := f3.2.2.1.mem hm
      rw [he3] at e'; cases e'
      exact nf _ hd3
    have nI : sI.heap.get? a = none := by
      cases q : sI.heap.get? a with
      | none => rfl
      | some o =>
        have := nb a o q (by rw [show (X.tr (X.pn ++ pins) _).stack = X.env :: X.outer from hs]; exact away)
        rw [f3.2.1] at this
        cases this
    have n0 : ∀ u, X.s_0.heap.get? a = some u → a ∈ X.ex := fun u q => Decidable.byContradiction fun hx => by
      obtain ⟨o', z⟩ := J.base.there a u q hx
      rw [nI] at z
      cases z
    have nP : ∀ p ∈ X.pn ++ pins, p.1 ≠ a := fun p hp z => by
      have := (J.pin p hp).1
      rw [z, nI] at this
      cases this
    have nL : a ≠ X.env.locals := fun z => away (List.mem_filterMap.mpr ⟨X.env, List.mem_cons_self, by rw [hf, z]⟩)
    have nF : a ∉ X.fs := fun hm => by
      obtain ⟨y, hy, q⟩ := List.mem_filterMap.mp hm
      exact away (List.mem_filterMap.mpr ⟨y, List.mem_cons_of_mem _ hy, q⟩)
    have S3 := J3.suite he3 hd3 na nL nF
    obtain ⟨hb1, C, dx, ec, ed, rt⟩ := want
    have LT : PySem.W.Looks (model X.prog X.w) g3 (typeOf (.ref a)) cls := fun _ _ _ _ k q => wpAny_typeOf_ref (k _ _ he3) (by rw [hz3.1]; exact q)
    have LM := PySem.W.exm_one (M := model X.prog X.w) J3.kIn LT hb1
    have name : ∀ {Q : Value → Shared → Prop} {E : Value → Shared → Prop}, Q c { s' with heap := g3 } → wpAny (model X.prog X.w) (X.A.mark (some (.ref a))) (eval (.Name x np) X.env) Q E { s' with heap := g3 } := fun q => by
      obtain ⟨hg, hdbg, hm | ⟨hm, hv, hnn⟩⟩ := hc
      · exact ld_glob (X := X.suite a ((a, o3) :: (X.pn ++ pins))) S3 hg hm q hdbg
      · exact ld_blt (X := X.suite a ((a, o3) :: (X.pn ++ pins))) S3 hg hm hv q hnn hdbg
    refine wpAny_handleBy_cons (codeAny_handlers_test (name (LM.here ?_))) (fun q => by cases q)
    refine codeAny_handlers_suite_as (HandSPX.lands_againZ f3 fun g4 f4 u4 => ?_)
    have J4 : Inv X pins σ' H' { s' with heap := g4 } := J.landed nb f4.1 ((up.trans u3).trans u4) os ag
    obtain ⟨o4, v4, he4, hz4, hd4⟩ := f4.there
    refine store_ok (X := X.suite a ((a, o4) :: (X.pn ++ pins))) (v := .ref a) (J4.suite he4 hd4 na nL nF) hN hi (.inl hl) rfl (fun s5 S5 => ?_) (.inr hl)
    have off : ∀ {σ6 : L2.St} {H6 : Hp} {s6 : Shared} {Q : Shared → Prop}, Inv (X.suite a ((a, o4) :: (X.pn ++ pins))) [] σ6 H6 s6 → (∀ s7, Inv X ((a, o4) :: pins) (σ6.set i none) H6 s7 → Q s7) →
        wpAny (model X.prog X.w) X.A (do bindName X.env n .none; unbindBehindTheSuite X.env n pos') (fun _ s7 => Q s7) X.xe s6 := fun S6 hq => by
      have J6 : Inv X ((a, o4) :: pins) _ _ _ := (S6.unsuite ok).pins_of fun p hp => by
        rcases List.mem_cons.mp hp with e | h
        · rw [e]; exact S6.pin (a, o4) (by rw [List.append_nil]; exact List.mem_cons_self)
        · exact S6.pin p (by rw [List.append_nil]; exact List.mem_cons_of_mem _ (List.mem_append_right _ h))
      exact gone_ok J6 hN hi hl hq
    refine wpAny_mono ((pss_one (ps_ret (pos := p2) (hv a o4 (X.pn ++ pins)))).run [] s5 _ H' { nx := fun _ _ => False, rt := fun v H6 => v = .ref a ∧ H6 = H' } S5 ⟨.ref a, ?_, rfl, rfl⟩) (fun fl s6 fin => ?_) (fun _ _ z => False.elim z)
    · have hl2 : i < σ'.length := by
        have := J.len
        have h2 := (List.getElem?_eq_some_iff.mp hi).1
        omega
      rw [List.getElem?_set_self hl2]
    · cases fl with
      | ret u =>
        obtain ⟨v6, σ6, H6, S6, r6, q6, q7⟩ := fin
        subst q6 q7
        refine off S6 fun s7 J7 => ?_
        obtain ⟨g1, g2, g3, g4, g5⟩ := J7.pin (a, o4) (List.mem_append_right _ List.mem_cons_self)
        have J8 : Inv X pins (σ6.set i none) H6 s7 := J7.pins_of fun p hp => J7.pin p (List.mem_append_right _ (List.mem_cons_of_mem _ hp))
        have J9 := inv_add (o := excH a C dx) J8 na n0 nL (fun y cc hy z => by
          obtain ⟨w, hw⟩ := J7.cell y cc hy
          obtain ⟨oc, ho, hdat⟩ := hw
          rw [z] at ho
          have : oc = o4 := Option.some.inj (ho.symm.trans g1)
          rw [this] at hdat
          exact g5 _ hdat) nP (exc_ok ⟨o4, v4, g1, hz4.1.trans ec, hz4.2.trans ed, hd4⟩)
        exact ⟨_, _, _, J9, r6, rt a na⟩
      | next => exact let ⟨σ6, H6, S6, q6⟩ := fin; q6.elim
      | brk => exact let ⟨σ6, H6, S6, q6⟩ := fin; q6.elim
      | cont => exact let ⟨σ6, H6, S6, q6⟩ := fin; q6.elim
  · cases fl with
    | ret u => exact let ⟨v, σ', H', J', r, q⟩ := fin; ⟨v, σ', H', J'.ofTry ok, r, q⟩
    | next => exact let ⟨σ', H', J', q⟩ := fin; wpAny_execs_nil ⟨σ', H', J'.ofTry ok, q⟩
    | brk => exact let ⟨σ', H', J', q⟩ := fin; ⟨σ', H', J'.ofTry ok, q⟩
    | cont => exact let ⟨σ', H', J', q⟩ := fin; ⟨σ', H', J'.ofTry ok, q⟩
end
end DP
set_option Elab.async false
set_option linter.all false
set_option maxRecDepth 100000
/-! DP, part 58: C(..) whose __init__ raises at its first statement; a def that gives the exception back. -/
namespace DP
open PySem PySem.Spec PyProof.Rows L2
/-- a body that raises x(d) at once, d = T(the parameters but self) -/
def spI (K : PySem.W.Frag) (w : World) (mg : Str → Option Value) (n : Nat) (x : Str) (T : List D → Option D) : Sp := fun vs H _ E => ∃ self vs' W ds d, vs = self :: vs' ∧ Same W H ∧ RepL K w W ds vs' ∧ ds.length = n ∧ T ds = some d ∧
  ∀ C W' H' dx v, mg x = some (.ref C) → Ex W H W' H' → W' dx = some (.xd [(("at" : Str), v)]) → Rep K w W' d v → E (.ref C) (some dx) H'
def initD (n : Nat) (tf : TF) (g : XF) (ds : List D) : Option D := match tf (.no :: ds.map .fz ++ List.replicate (n - (ds.length + 1)) .no) with
  | .ok (true, e1) => (match g e1 with
    | .ok (d, _) => some d
    | _ => none)
  | _ => none
theorem SR.startI {K : PySem.W.Frag} {w : World} {ρ : Nat → Addr} {W H : Hp} {ds : List D} {self : V} {vs : List V} {N : List Str} (s : Same W H) (r : RepL K w W ds vs) (hN : ds.length + 1 ≤ N.length) :
    SR K w ρ W H (.no :: ds.map .fz ++ List.replicate (N.length - (ds.length + 1)) .no) (L2.start N (self :: vs)) (List.replicate (L2.start N (self :: vs)).length []) := by
  have hl := r.len
  refine ⟨s, ?_, by simp, fun i sl v l h1 h2 h3 => ?_, fun i j l m p h1 h2 h3 _ => absurd ⟨i, l, h1, h3⟩ (own_none p)⟩
  · unfold L2.start
    simp only [List.length_append, List.length_map, List.length_replicate, List.length_cons]
    omega
  · rw [List.getElem?_replicate] at h3
    split at h3
    · cases h3
      cases i with
      | zero =>
        simp at h1
        subst h1
        exact rfl
      | succ i =>
        unfold L2.start at h2
        rw [List.cons_append, List.getElem?_cons_succ] at h1
        rw [List.map_cons, List.cons_append, List.getElem?_cons_succ] at h2
        by_cases hi : i < ds.length
        · rw [List.getElem?_append_left (by simpa using hi), List.getElem?_map, List.getElem?_eq_getElem hi] at h1
          cases h1
          rw [List.getElem?_append_left (by simp; omega), List.getElem?_map] at h2
          obtain ⟨x, hx, rx⟩ := r.at (List.getElem?_eq_getElem hi)
          rw [hx] at h2
          cases h2
          exact ⟨rfl, x, rfl, rx⟩
        · rw [List.getElem?_append_right (by simp; omega), List.getElem?_replicate] at h1
          split at h1 <;> cases h1
          exact rfl
    · cases h3
section
variable {P : Program} {w : World} {K : PySem.W.Frag} {mg : Str → Option Value} {base : Heap} {k : Nat} {f : Addr} {fd : FuncData} {N : List Str} {B fi C : Addr}
theorem fnG_I {x0 qual : Str} {st : Stmt} {ps : List Str} {tf : TF} {g : XF} {c a : Expr} {x : Str} {p pos pos2 p0 : Pos} {rest : List Stmt} (Fn : Fun K x0 qual st f fd) (S : FnScope N ps (defScope st)) (hb : defBody st = .If c [.Raise (some (.Call (.Name x p) [a] [] pos)) none pos2] [] p0 :: rest)
    (hps : 1 ≤ ps.length) (T : NetB P K mg B fi) (TC : NetC K B fi C) (gC : mg x = some (.ref C)) (hdb : (x == ("__debug__" : Str)) = false)
    (body : ∀ (cdv : Value) (A : Around) (outer : List Env) (s : Shared) (H : Hp) (E : XK), Room k (A.deeper (envOfC qual (defScope st) s.heap.objs.size f cdv)) → A.guards = some [] →
      ET (cxOf (L2.CX P w) P w K mg base N qual (defScope st) f cdv A outer s H E) (fun cls d _ H => E cls d H) c tf ∧ EX (cxOf (L2.CX P w) P w K mg base N qual (defScope st) f cdv A outer s H E) (fun cls d _ H => E cls d H) a g ∧ Gl (cxOf (L2.CX P w) P w K mg base N qual (defScope st) f cdv A outer s H E) x ∧ Takes (cxOf (L2.CX P w) P w K mg base N qual (defScope st) f cdv A outer s H E) (fun cls d _ H => E cls d H) ∧ (cxOf (L2.CX P w) P w K mg base N qual (defScope st) f cdv A outer s H E).calm = true ∧ Room k (cxOf (L2.CX P w) P w K mg base N qual (defScope st) f cdv A outer s H E).A ∧
        starEach [a] (cxOf (L2.CX P w) P w K mg base N qual (defScope st) f cdv A outer s H E).env = (false, eval a (cxOf (L2.CX P w) P w K mg base N qual (defScope st) f cdv A outer s H E).env) :: starEach [] (cxOf (L2.CX P w) P w K mg base N qual (defScope st) f cdv A outer s H E).env ∧ (backTo pos (starEach [] (cxOf (L2.CX P w) P w K mg base N qual (defScope st) f cdv A outer s H E).env)).any (·.1) = false) :
    FnG P w K mg base (k + 1) f fd ps (spI K w mg (ps.length - 1) x (initD N.length tf g)) := by
  refine fnG_of Fn S (fun vs H Q E h => ?_) fun cdv A outer s H vs Q E hr hg h => ?_
  · obtain ⟨self, vs', W, ds, d, rfl, _, r, hl, _⟩ := h
    rw [List.length_cons, r.len, hl]
    omega
  · obtain ⟨b1, b2, b3, b4, b5, b6, b7, b8⟩ := body cdv A outer s H E hr hg
    have m := pmk_net (p := p) (pos := pos) T TC gC b6 (ea_cons b2 ea_nil b7) b3 hdb b7 b8
    have body' := pss_cons (ps_if (pos := p0) b1 (pss_one (ps_raise (pos := pos2) b5 b4 m)) pss_nil) (rest := rest) (u := fun _ _ _ => False) ⟨fun _ _ _ _ _ _ h => h.elim⟩
    refine ⟨_, hb ▸ body', ?_⟩
    obtain ⟨self, vs', W, ds, d, rfl, sm, r, hl, hT, h⟩ := h
    have hN : ds.length + 1 ≤ N.length := by
      have := congrArg List.length S.pre
      rw [List.length_take] at this
      omega
    unfold initD at hT
    split at hT
    · rename_i e1 et
      split at hT
      · rename_i d' e2 eg
        cases hT
        refine ⟨fun _ => 0, W, _, _, SR.startI (self := self) sm r hN, ?_⟩
        rw [et]
        intro W1 H1 A1 b S1 F1 rb
        subst rb
        rw [if_pos rfl]
        refine ⟨fun _ => 0, W1, e1, A1, S1, ?_⟩
        show onG _ _ _ _ _ _ _ _ _ _ (aCons g aNil e1) _
        unfold aCons aNil
        rw [eg]
        intro W2 H2 A2 vs2 S2 F2 r2
        simp only [RepL] at r2
        obtain ⟨v, _, rfl, r2, rfl⟩ := r2
        refine ⟨v, rfl, fun dx n => ?_⟩
        have E0 := (F1.trans F2).ex own_none S2.sub
        have E1 := Ex.one (o := .xd [(("at" : Str), v)]) S2.sub n
        exact h C _ _ dx v gC (E0.trans E1) upd_same (Rep.mono E1.ext _ _ r2)
      · cases hT
    · cases hT
end
end DP
set_option Elab.async false
set_option linter.all false
set_option maxRecDepth 100000
/-! DP, part 59: C(..) that raises, called; try: C(..) except D as e: return e. -/
namespace DP
open PySem PySem.Spec PyProof.Rows L2
section
variable {X : Cx} {Wx : WX} {k j : Nat} {f C : Addr} {fd : FuncData} {ps : List Str} {sp : Sp} {x : Str} {p pos : Pos} {e : Expr} {es : List Expr} {t : TA}
theorem pe_newX (M : Mk X.K C f) (G : FnG X.prog X.w X.K X.mg X.base k f fd ps sp) (hr : Room (k + 1) X.A) (hq : X.A.guards = some []) (hg : Gl X x) (hm : X.mg x = some (.ref C)) (hb : Binds X.K fd ps []) {E : L2.St → XK} (hx : ∀ σ, PassesAt (L2.CX X.prog X.w) X σ (E σ)) (ha : PA X (e :: es) t)
    (hdb : (x == ("__debug__" : Str)) = false := by decide) (he : starEach (e :: es) X.env = (false, eval e X.env) :: starEach es X.env := by rfl) (hpl : (backTo pos (starEach es X.env)).any (·.1) = false := by rfl) :
    PE X (.Call (.Name x p) (e :: es) [] pos) (fun σ H _ => t σ H fun vs H1 => ∀ y dx, H1 y = none → H1 dx = none → dx ≠ y → sp (.ref y :: vs) (upd (upd H1 dx (.own y)) y (.ins C dx [])) (fun _ _ => False) (E σ)) := by
  refine ⟨fun pins s σ H Q I h => ?_⟩
  refine wpAny_Call_Name_kw (ld_glob I hg hm ?_ hdb)
  refine PySem.W.callWith_K (h₀ := X.base) I.ok.mod.kin M.kp (thn (ha.run pos pins s σ H _ I h) fun us s1 ⟨vs, H1, I1, r, q⟩ => ⟨I1.kIn, ?_⟩) he hpl
  have hq1 := q (s1.heap.objs.size + 1) s1.heap.objs.size (I1.hok.fresh (Nat.le_succ _)) (I1.hok.fresh (Nat.le_refl _)) (Nat.ne_of_lt (Nat.lt_succ_self _))
  have I2 := Inv.made (C := C) I1
  have r2 : Vals (V.ref (s1.heap.objs.size + 1) :: vs) (Value.ref (s1.heap.objs.size + 1) :: us) := .cons rfl r
  have hl : (Value.ref (s1.heap.objs.size + 1) :: us ++ []).length = ps.length := by
    have e := r2.length
    rw [G.len _ _ _ _ hq1] at e
    rw [List.append_nil]
    exact e.symm
  have hbb := hb _ (Value.ref (s1.heap.objs.size + 1) :: us) I2.kIn hl
  rw [List.append_nil] at hbb
  refine wpAny_call (make_map (f := f) I1.kIn M.makes M.init (beq_iff_eq.mp M.fn) (codeAny_mono (G.go _ X.stack _ _ ⟨Value.ref (s1.heap.objs.size + 1) :: us, []⟩ (Value.ref (s1.heap.objs.size + 1) :: us) _ _ (E σ) (hr.make C us []) hq
    (I2.env0.make C us []) hbb r2 hq1) fun r s' hq' => ?_))
  cases r with
  | error e => exact hx σ pins _ _ e s' I2 hq'
  | ok fl =>
    cases fl with
    | ret u =>
      obtain ⟨v, H', I3, rv, ev⟩ := I2.after hq'
      exact ev.elim
    | next => exact False.elim hq'
    | brk => exact False.elim hq'
    | cont => exact False.elim hq'
end
/-! ### the def -/
def raisedD (n : Nat) (x : Str) (T : List D → Option D) (aF : AF) (m : Nat) (ds : List D) : Out D := match aF (ds.map .fz ++ List.replicate (n - ds.length) .no) with
  | .ok (ds', _) => if ds'.length = m then (match T ds' with
    | some d => .ok (.tuple [.str x, d])
    | none => .bad) else .bad
  | _ => .bad
section
variable {P : Program} {w : World} {K : PySem.W.Frag} {mg : Str → Option Value} {base : Heap} {k : Nat} {f : Addr} {fd : FuncData} {N : List Str}
theorem fnG_raised {x0 qual : Str} {st : Stmt} {ps : List Str} {aF : AF} {T : List D → Option D} {m i k2 : Nat} {cn xe dn n : Str} {a : Expr} {as : List Expr} {C D0 fi : Addr} {fdi : FuncData} {psi : List Str} {p pos p3 np p1 p2 pos' pos2 : Pos} {rest : List Stmt}
    (Fn : Fun K x0 qual st f fd) (S : FnScope N ps (defScope st)) (hb : defBody st = .Try [.Expr (.Call (.Name cn p) (a :: as) [] pos) p3] [.ExceptHandler (some (.Name dn np)) (some n) [.Return (some (.Name n p1)) p2] pos'] [] [] pos2 :: rest)
    (M : Mk K C fi) (G : FnG P w K mg base k2 fi fdi psi (spI K w mg m xe T)) (hk2 : k2 + 1 ≤ k) (gC : mg cn = some (.ref C)) (bi : Binds K fdi psi [])
    (nX : ∀ E, mg xe = some (.ref E) → PySem.W.nsIn K mainGlobals xe = some (some (.ref E)) ∧ PySem.W.exmOne K (.ref E) (.ref D0) = some true)
    (hi : N[i]? = some n) (hdc : (cn == ("__debug__" : Str)) = false) (hdd : (dn == ("__debug__" : Str)) = false) (gD : mg dn = some (.ref D0))
    (body : ∀ (cdv : Value) (A : Around) (outer : List Env) (s : Shared) (H : Hp) (E : XK), Room k (A.deeper (envOfC qual (defScope st) s.heap.objs.size f cdv)) → A.guards = some [] → ∀ X, X = cxOf (L2.CX P w) P w K mg base N qual (defScope st) f cdv A outer s H E →
      X.env.kindOf n = some .local ∧ X.env.frame = some X.env.locals ∧ X.stack = X.env :: X.outer ∧ Gl X dn ∧ X.A.guards = some [] ∧ Room k X.A ∧ (∀ a oe pn, PE (X.suite a ((a, oe) :: pn)) (.Name n p1) (tVar i)) ∧ ∀ W pn xx, Takes (X.tr pn xx) W → Gl (X.tr pn xx) cn ∧ EA (X.tr pn xx) W (a :: as) aF ∧ swapsWith (.Call (.Name cn p) (a :: as) [] pos) none p3.line (X.tr pn xx).env = pure false ∧
        starEach (a :: as) (X.tr pn xx).env = (false, eval a (X.tr pn xx).env) :: starEach as (X.tr pn xx).env ∧ (backTo pos (starEach as (X.tr pn xx).env)).any (·.1) = false) :
    FnG P w K mg base (k + 1) f fd ps (spY K w ps.length (raisedD N.length xe T aF m)) := by
  refine fnG_of Fn S (fun vs H Q E h => ?_) fun cdv A outer s H vs Q E hr hg h => ?_
  · obtain ⟨W, ds, d, _, r, hl, _⟩ := h
    exact r.len.trans hl
  · obtain ⟨b1, b2, b3, b4, b5, b6, b7, b8⟩ := body cdv A outer s H E hr hg _ rfl
    have tr := ps_tryR (pos := pos2) (pos' := pos') (np := np) (p2 := p2) (X := cxOf (L2.CX P w) P w K mg base N qual (defScope st) f cdv A outer s H E) (body := [.Expr (.Call (.Name cn p) (a :: as) [] pos) p3]) (n := n) (x := dn) (i := i) (c := .ref D0) (tb := fun W => tDrop fun σ H _ => tG K w mg W (RepL K w) aF σ H fun vs H1 => ∀ y dx, H1 y = none → H1 dx = none → dx ≠ y → spI K w mg m xe T (.ref y :: vs) (upd (upd H1 dx (.own y)) y (.ins C dx [])) (fun _ _ => False) (fun cls d H => W cls d σ H)) b3 b2 S.nd (fun W pn xx tk hp => by
      obtain ⟨c1, c2, c3, c4, c5⟩ := b8 W pn xx tk
      exact pss_one (ps_expr (pe_newX (X := (cxOf (L2.CX P w) P w K mg base N qual (defScope st) f cdv A outer s H E).tr pn xx) M G (b6.mono hk2) b5 c1 gC bi (E := fun σ cls d H => W cls d σ H) (fun σ => passAt tk σ) c2 hdc c4 c5) c3)) hi b1 ⟨b4, hdd, .inl gD⟩ b7
    have body' := pss_cons tr (rest := rest) (u := fun _ _ _ => False) ⟨fun _ _ _ _ _ _ h => h.elim⟩
    refine ⟨_, hb ▸ body', ?_⟩
    obtain ⟨W, ds, d, sm, r, hl, hF, h⟩ := h
    unfold raisedD at hF
    split at hF
    · rename_i ds' e1 ea
      split at hF
      · rename_i hm
        split at hF
        · rename_i d' ed
          cases hF
          refine ⟨fun _ => 0, W, _, _, SR.start sm r, ?_⟩
          rw [ea]
          intro W1 H1 A1 vs1 S1 F1 r1 y dy ny nd hne
          have E0 := F1.ex own_none S1.sub
          have J1 := Ex.junk (o := .own y) S1.sub nd
          have ny' : upd H1 dy (.own y) y = none := by rw [upd_ne (Ne.symm hne)]; exact ny
          have J2 := Ex.junk (o := .ins C dy []) J1.sub ny'
          refine ⟨.ref y, vs1, W1, ds', d', rfl, J2.sub, r1, hm, ed, fun E W' H' dx v gE ex hx rv => ?_⟩
          obtain ⟨n1, n2⟩ := nX E gE
          refine ⟨n2, E, dx, rfl, rfl, fun ea na => ?_⟩
          have E2 := Ex.one (o := excH ea E dx) ex.sub na
          refine h _ _ _ ((E0.trans (J1.trans J2)).trans (ex.trans E2)) ?_
          rw [repE_tup]
          exact ⟨ea, E, dx, v, rfl, n1, upd_same, E2.ext _ _ hx, Rep.mono E2.ext _ _ rv⟩
        · cases hF
      · cases hF
    · cases hF
end
end DP
set_option Elab.async false
set_option linter.all false
set_option maxRecDepth 100000
/-! DP, part 60: a table of classes of errors. -/
namespace DP
open PySem PySem.Spec PyProof.Rows L2
abbrev veL : List Value := [.type "ValueError", .type "Exception", .type "BaseException", .type "object"]
/-- one class of the table -/
structure ClT (K : PySem.W.Frag) (B f : Addr) (p : Str × Addr) : Prop where
  ns : PySem.W.nsIn K mainGlobals p.1 = some (some (.ref p.2))
  x : NetX K B f p.2
  mro : ∃ bm, (∀ v, PySem.W.mroIn K p.2 v = some ((Value.ref p.2 :: bm).contains v)) ∧ (bm = .ref B :: veL ∨ (p.2 = B ∧ bm = veL))
theorem mro_exc {K : PySem.W.Frag} {nm q : Str} {C N : Addr} {bs bm : List Value} {sn : List Str} {sub : List Value} {ab : Bool} {col : Option Bool} {dd : Option Addr} {k0 k1 k2 k3 k5 : Option Value} (h : K.lookup C = some (excClassObj nm q C N bs bm true sn sub ab col dd k0 k1 k2 k3 k5 "ValueError.__new__")) (v : Value) : PySem.W.mroIn K C v = some ((Value.ref C :: bm).contains v) := by
  unfold PySem.W.mroIn PySem.W.clsIn
  rw [h]
  rfl
section
variable {K : PySem.W.Frag} {B f : Addr} {tab : List (Str × Addr)}
def knT (ns : List Str) (x : Str) : Bool := ns.contains x
def isT (ns : List Str) (b : Str) (y x : Str) : Option Bool := if (knT ns x && knT ns y) = true then some (x == y || y == b) else none
theorem tab_of (h : ∀ p ∈ tab, ClT K B f p) {x : Str} (hx : knT (tab.map (·.1)) x = true) : ∃ C, (x, C) ∈ tab ∧ PySem.W.nsIn K mainGlobals x = some (some (.ref C)) ∧ NetX K B f C := by
  unfold knT at hx
  rw [List.contains_iff_mem] at hx
  obtain ⟨p, hp, rfl⟩ := List.mem_map.mp hx
  exact ⟨p.2, hp, (h p hp).ns, (h p hp).x⟩
theorem tab_same (h : ∀ p ∈ tab, ClT K B f p) {x : Str} {C D : Addr} (hC : (x, C) ∈ tab) (hD : PySem.W.nsIn K mainGlobals x = some (some (.ref D))) : C = D := by
  have := (h _ hC).ns
  rw [hD] at this
  cases this
  rfl
theorem tab_isa (h : ∀ p ∈ tab, ClT K B f p) (nd : (tab.map (·.2)).Nodup) (nn : (tab.map (·.1)).Nodup) {b : Str} (hB : (b, B) ∈ tab) {x y : Str} {C D : Addr} {z : Bool} (e : isT (tab.map (·.1)) b y x = some z) (hx : PySem.W.nsIn K mainGlobals x = some (some (.ref C))) (hy : PySem.W.nsIn K mainGlobals y = some (some (.ref D))) : PySem.W.kitOne K (.ref C) (.ref D) = some z := by
  unfold isT at e
  split at e
  · rename_i hk
    obtain ⟨kx, ky⟩ := Bool.and_eq_true_iff.mp hk
    obtain ⟨C', m1, _, X1⟩ := tab_of h kx
    obtain ⟨D', m2, _, X2⟩ := tab_of h ky
    have e1 := tab_same h m1 hx
    have e2 := tab_same h m2 hy
    subst e1 e2
    have q1 : ∀ {x1 x2 : Str} {a1 a2 : Addr}, (x1, a1) ∈ tab → (x2, a2) ∈ tab → (x1 = x2 ↔ a1 = a2) := fun {x1 x2 a1 a2} u1 u2 => by
      obtain ⟨i, hi, g1⟩ := List.getElem_of_mem u1
      obtain ⟨j, hj, g2⟩ := List.getElem_of_mem u2
      constructor
      · intro q
        have := (List.getElem_inj (i := i) (j := j) (h₀ := by simpa using hi) (h₁ := by simpa using hj) nn).mp (by simp [g1, g2, q])
        subst this
        rw [g1] at g2
        cases g2
        rfl
      · intro q
        have := (List.getElem_inj (i := i) (j := j) (h₀ := by simpa using hi) (h₁ := by simpa using hj) nd).mp (by simp [g1, g2, q])
        subst this
        rw [g1] at g2
        cases g2
        rfl
    cases e
    obtain ⟨cd, hcd, _⟩ := PySem.W.any_some X2.net.hdC
    obtain ⟨bm, M, hbm⟩ := (h _ m1).mro
    unfold PySem.W.kitOne
    have rq : ∀ a b : Addr, ((Value.ref a == Value.ref b) = true) ↔ a = b := fun a b => by simp
    by_cases hcd2 : C' = D'
    · rw [if_pos ((rq _ _).mpr hcd2), (show (x == y) = true from beq_iff_eq.mpr ((q1 m1 m2).mpr hcd2))]
      rfl
    · have hxy : (x == y) = false := beq_eq_false_iff_ne.mpr fun q => hcd2 ((q1 m1 m2).mp q)
      rw [if_neg (fun q => hcd2 ((rq _ _).mp q)), hxy, Bool.false_or]
      show PySem.W.kitCls K (.ref C') (.ref D') = _
      unfold PySem.W.kitCls
      simp only
      rw [if_pos (by rw [hcd, X2.net.tyC]; rfl)]
      show PySem.W.mroIn K C' (.ref D') = _
      rw [M]
      congr 1
      have hb : (y == b) = decide (D' = B) := by
        rw [Bool.eq_iff_iff, beq_iff_eq, decide_eq_true_eq]
        exact q1 m2 hB
      have hn : ¬ D' = C' := fun q => hcd2 q.symm
      rw [hb]
      have n1 : (Value.ref D' == Value.ref C') = false := Bool.eq_false_iff.mpr fun q => hn ((rq _ _).mp q)
      have nv : veL.contains (Value.ref D') = false := rfl
      rcases hbm with hbm | ⟨hbm, hbm2⟩
      · subst hbm
        rw [List.contains_cons, List.contains_cons, nv]
        show ((Value.ref D' == Value.ref C') || _) = _
        rw [n1, Bool.false_or, Bool.or_false]
        by_cases q : D' = B
        · rw [(rq _ _).mpr q, decide_eq_true q]
        · rw [decide_eq_false q]
          exact Bool.eq_false_iff.mpr fun z => q ((rq _ _).mp z)
      · subst hbm2
        have hnB : ¬ D' = B := fun q => hn (q.trans hbm.symm)
        rw [List.contains_cons, nv, decide_eq_false hnB]
        show ((Value.ref D' == Value.ref C') || _) = _
        rw [n1]
        rfl
  · cases e
theorem tab_isv (h : ∀ p ∈ tab, ClT K B f p) {x : Str} {C : Addr} (kx : knT (tab.map (·.1)) x = true) (hx : PySem.W.nsIn K mainGlobals x = some (some (.ref C))) : NetX K B f C ∧ PySem.W.kitOne K (.ref C) (.type "ValueError") = some true := by
  obtain ⟨C', m1, _, X1⟩ := tab_of h kx
  have e1 := tab_same h m1 hx
  subst e1
  refine ⟨X1, ?_⟩
  show PySem.W.kitCls K (.ref C') (.type "ValueError") = _
  unfold PySem.W.kitCls
  simp only
  rw [if_pos (by decide +kernel)]
  exact X1.net.veC
theorem tab_exm (h : ∀ p ∈ tab, ClT K B f p) {b : Str} (hB : (b, B) ∈ tab) {x : Str} {C : Addr} (kx : knT (tab.map (·.1)) x = true) (hx : PySem.W.nsIn K mainGlobals x = some (some (.ref C))) : PySem.W.exmOne K (.ref C) (.ref B) = some true := by
  obtain ⟨C', m1, _, X1⟩ := tab_of h kx
  have e1 := tab_same h m1 hx
  subst e1
  have XB := (h _ hB).x
  obtain ⟨cd, hc, _⟩ := PySem.W.any_some XB.net.hdC
  have e1 : (PySem.W.subIn K (.ref B) (.type "BaseException") == some true) = true := by rw [XB.net.exC]; rfl
  have e2 : ((PySem.W.clsIn K B).isSome && PySem.W.typeIn K (.ref B) == some (.type "type")) = true := by rw [hc, XB.net.tyC]; rfl
  show (if (PySem.W.subIn K (.ref B) (.type "BaseException") == some true) = true then (if ((PySem.W.clsIn K B).isSome && PySem.W.typeIn K (.ref B) == some (.type "type")) = true then PySem.W.subIn K (.ref C') (.ref B) else none) else none) = some true
  rw [if_pos e1, if_pos e2]
  exact X1.net.mB
end
end DP
set_option Elab.async false
set_option linter.all false
set_option maxRecDepth 100000
set_option maxHeartbeats 1000000
namespace K00
open PySem PySem.Spec PyProof.Rows L2 DP
def topS (i : Nat) : Stmt := PySem.Challenge.pw_waysflooded_k00_errors_are_apart.main.body.getD i (.Pass ⟨0, 0, 0, 0⟩)
def clsS (i j : Nat) : Stmt := match topS i with
  | .ClassDef _ _ _ b _ _ _ _ _ _ _ => b.getD j (.Pass ⟨0, 0, 0, 0⟩)
  | s => s
def knL : List Str := ["NetError", "OutOfRange", "TooMany", "BadPrefix", "BadTable", "BadFaults", "BadWay", "BadRouter", "BadLink", "BadCost", "BadEvent", "BadState", "BadNet", "BadPacket", "BadRule", "NoMessage", "BadTie", "BadOwner", "BadWish", "BadChange", "BadArea", "BadRange", "BadDomain", "BadHanding", "BadTeller", "BadLine", "BadDemand"]
abbrev kn : Str → Bool := knT knL
def isV (x : Str) : Option Bool := if kn x = true then some true else none
abbrev st__law_draws : Stmt := topS 37
abbrev N__law_draws : List Str := ["script", "draws", "k", "rest", "turn", "stirred"]
abbrev P__law_draws : List Str := ["script"]
theorem S__law_draws : FnScope N__law_draws P__law_draws (defScope st__law_draws) := ⟨rfl, rfl, rfl, by decide +kernel, rfl, by decide +kernel, by decide +kernel⟩
def Y1__law_draws : SF :=
    sIf (tst (x2 gtD (xVar 3) (xConst (.int 0)))) (sSeq (sDrop (xMutL 1 opApp (aCons (x2 modD (xn intD (aCons (xVar 3) (aNil))) (xConst (.int 65536))) (aNil))))
    (sSet 3 (x2 fdivD (xVar 3) (xConst (.int 65536))))) (sNext)
def Y2__law_draws : SF :=
    sSeq (sSet 3 (xn absD (aCons (xAtS 0 (xVar 2)) (aNil))))
    (sIf (tst (x2 geD (xVar 3) (x2 powD (xConst (.int 10)) (xConst (.int 18))))) (sFor (iArgs rng1 (aCons (xConst (.int 60)) (aNil))) (gN 4) (Y1__law_draws)) (sSeq (sSet 5 (x2 modD (xn intD (aCons (x2 addD (x2 mulD (xVar 3) (xConst (.int 48271))) (x2 mulD (x2 addD (xVar 2) (xConst (.int 1))) (xConst (.int 69621)))) (aNil))) (xConst (.int 2147483647))))
    (sSeq (sSet 5 (x2 modD (xn intD (aCons (x2 addD (x2 addD (x2 mulD (xVar 5) (xConst (.int 16807))) (x2 mulD (xConst (.int 11)) (xVar 2))) (xConst (.int 5))) (aNil))) (xConst (.int 2147483629))))
    (sSeq (sDrop (xMutL 1 opApp (aCons (x2 modD (xn intD (aCons (xVar 5) (aNil))) (xConst (.int 65536))) (aNil))))
    (sDrop (xMutL 1 opApp (aCons (x2 modD (xn intD (aCons (x2 fdivD (xVar 5) (xConst (.int 65536))) (aNil))) (xConst (.int 32768))) (aNil))))))))
def B__law_draws : SF :=
    sSeq (sOwn 1 (xLst (aNil)))
    (sSeq (sFor (iArgs rng1 (aCons (xn min2D (aCons (xConst (.int 63)) (aCons (xLenS 0) (aNil)))) (aNil))) (gN 2) (Y2__law_draws))
    (sRet (xVar 1)))
def F__law_draws : FS := runS 6 B__law_draws
abbrev st__law_mix : Stmt := topS 38
abbrev N__law_mix : List Str := ["draws", "k", "many", "cell"]
abbrev P__law_mix : List Str := ["draws", "k", "many"]
theorem S__law_mix : FnScope N__law_mix P__law_mix (defScope st__law_mix) := ⟨rfl, rfl, rfl, by decide +kernel, rfl, by decide +kernel, by decide +kernel⟩
def B__law_mix : SF :=
    sSeq (sSet 3 (xConst (.int 0)))
    (sSeq (sIf (tst (x2 gtD (xn lenD (aCons (xVar 0) (aNil))) (xConst (.int 0)))) (sSet 3 (x2 ixD (xVar 0) (x2 modD (xn intD (aCons (xVar 1) (aNil))) (xn lenD (aCons (xVar 0) (aNil)))))) (sNext))
    (sSeq (sIf (tst (x2 ltD (xVar 1) (xn lenD (aCons (xVar 0) (aNil))))) (sRet (x2 modD (xn intD (aCons (xVar 3) (aNil))) (xVar 2))) (sNext))
    (sRet (x2 modD (xn intD (aCons (x2 fdivD (xn intD (aCons (x2 addD (x2 mulD (xVar 3) (xConst (.int 7919))) (x2 mulD (xVar 1) (xConst (.int 104729)))) (aNil))) (xConst (.int 3))) (aNil))) (xVar 2)))))
def F__law_mix : FD := runB 4 B__law_mix
abbrev st__law_kinds : Stmt := topS 39
abbrev N__law_kinds : List Str := ["e"]
abbrev P__law_kinds : List Str := ["e"]
theorem S__law_kinds : FnScope N__law_kinds P__law_kinds (defScope st__law_kinds) := ⟨rfl, rfl, rfl, by decide +kernel, rfl, by decide +kernel, by decide +kernel⟩
def B__law_kinds : SF :=
    sRet (xLst (aCons (xIsE (isT knL "NetError" "OutOfRange") (xVarE 0)) (aCons (xIsE (isT knL "NetError" "TooMany") (xVarE 0)) (aCons (xIsE (isT knL "NetError" "BadPrefix") (xVarE 0)) (aCons (xIsE (isT knL "NetError" "BadTable") (xVarE 0)) (aCons (xIsE (isT knL "NetError" "BadFaults") (xVarE 0)) (aCons (xIsE (isT knL "NetError" "BadWay") (xVarE 0)) (aCons (xIsE (isT knL "NetError" "BadRouter") (xVarE 0)) (aCons (xIsE (isT knL "NetError" "BadLink") (xVarE 0)) (aCons (xIsE (isT knL "NetError" "BadCost") (xVarE 0)) (aCons (xIsE (isT knL "NetError" "BadEvent") (xVarE 0)) (aCons (xIsE (isT knL "NetError" "BadState") (xVarE 0)) (aCons (xIsE (isT knL "NetError" "BadNet") (xVarE 0)) (aCons (xIsE (isT knL "NetError" "BadPacket") (xVarE 0)) (aCons (xIsE (isT knL "NetError" "BadRule") (xVarE 0)) (aCons (xIsE (isT knL "NetError" "NoMessage") (xVarE 0)) (aCons (xIsE (isT knL "NetError" "BadTie") (xVarE 0)) (aCons (xIsE (isT knL "NetError" "BadOwner") (xVarE 0)) (aCons (xIsE (isT knL "NetError" "BadWish") (xVarE 0)) (aCons (xIsE (isT knL "NetError" "BadChange") (xVarE 0)) (aCons (xIsE (isT knL "NetError" "BadArea") (xVarE 0)) (aCons (xIsE (isT knL "NetError" "BadRange") (xVarE 0)) (aCons (xIsE (isT knL "NetError" "BadDomain") (xVarE 0)) (aCons (xIsE (isT knL "NetError" "BadHanding") (xVarE 0)) (aCons (xIsE (isT knL "NetError" "BadTeller") (xVarE 0)) (aCons (xIsE (isT knL "NetError" "BadLine") (xVarE 0)) (aCons (xIsE (isT knL "NetError" "BadDemand") (xVarE 0)) (aNil))))))))))))))))))))))))))))
def F__law_kinds : D → Option D := runK 1 B__law_kinds
abbrev st__law_made : Stmt := topS 40
abbrev N__law_made : List Str := ["n"]
abbrev P__law_made : List Str := ["n"]
theorem S__law_made : FnScope N__law_made P__law_made (defScope st__law_made) := ⟨rfl, rfl, rfl, by decide +kernel, rfl, by decide +kernel, by decide +kernel⟩
def f__law_made : XF :=
    xLstE (aConsE (xMkE "OutOfRange" (aCons (x2 addD (xVar 0) (xConst (.int 0))) (aNil))) (aConsE (xMkE "TooMany" (aCons (x2 addD (xVar 0) (xConst (.int 1))) (aNil))) (aConsE (xMkE "BadPrefix" (aCons (x2 addD (xVar 0) (xConst (.int 2))) (aNil))) (aConsE (xMkE "BadTable" (aCons (x2 addD (xVar 0) (xConst (.int 3))) (aNil))) (aConsE (xMkE "BadFaults" (aCons (x2 addD (xVar 0) (xConst (.int 4))) (aNil))) (aConsE (xMkE "BadWay" (aCons (x2 addD (xVar 0) (xConst (.int 5))) (aNil))) (aConsE (xMkE "BadRouter" (aCons (x2 addD (xVar 0) (xConst (.int 6))) (aNil))) (aConsE (xMkE "BadLink" (aCons (x2 addD (xVar 0) (xConst (.int 7))) (aNil))) (aConsE (xMkE "BadCost" (aCons (x2 addD (xVar 0) (xConst (.int 8))) (aNil))) (aConsE (xMkE "BadEvent" (aCons (x2 addD (xVar 0) (xConst (.int 9))) (aNil))) (aConsE (xMkE "BadState" (aCons (x2 addD (xVar 0) (xConst (.int 10))) (aNil))) (aConsE (xMkE "BadNet" (aCons (x2 addD (xVar 0) (xConst (.int 11))) (aNil))) (aConsE (xMkE "BadPacket" (aCons (x2 addD (xVar 0) (xConst (.int 12))) (aNil))) (aConsE (xMkE "BadRule" (aCons (x2 addD (xVar 0) (xConst (.int 13))) (aNil))) (aConsE (xMkE "NoMessage" (aCons (x2 addD (xVar 0) (xConst (.int 14))) (aNil))) (aConsE (xMkE "BadTie" (aCons (x2 addD (xVar 0) (xConst (.int 15))) (aNil))) (aConsE (xMkE "BadOwner" (aCons (x2 addD (xVar 0) (xConst (.int 16))) (aNil))) (aConsE (xMkE "BadWish" (aCons (x2 addD (xVar 0) (xConst (.int 17))) (aNil))) (aConsE (xMkE "BadChange" (aCons (x2 addD (xVar 0) (xConst (.int 18))) (aNil))) (aConsE (xMkE "BadArea" (aCons (x2 addD (xVar 0) (xConst (.int 19))) (aNil))) (aConsE (xMkE "BadRange" (aCons (x2 addD (xVar 0) (xConst (.int 20))) (aNil))) (aConsE (xMkE "BadDomain" (aCons (x2 addD (xVar 0) (xConst (.int 21))) (aNil))) (aConsE (xMkE "BadHanding" (aCons (x2 addD (xVar 0) (xConst (.int 22))) (aNil))) (aConsE (xMkE "BadTeller" (aCons (x2 addD (xVar 0) (xConst (.int 23))) (aNil))) (aConsE (xMkE "BadLine" (aCons (x2 addD (xVar 0) (xConst (.int 24))) (aNil))) (aConsE (xMkE "BadDemand" (aCons (x2 addD (xVar 0) (xConst (.int 25))) (aNil))) (aNil)))))))))))))))))))))))))))
def F__law_made : FD := runY 1 f__law_made
abbrev st_Feasible_init : Stmt := clsS 35 0
abbrev N_Feasible_init : List Str := ["self", "routers", "links", "target"]
abbrev P_Feasible_init : List Str := N_Feasible_init
theorem S_Feasible_init : FnScope N_Feasible_init P_Feasible_init (defScope st_Feasible_init) := ⟨rfl, rfl, rfl, by decide +kernel, rfl, by decide +kernel, by decide +kernel⟩
def T_Feasible_init : List D → Option D := initD 4 (tNotF (tst (xChain leD leD (xConst (.int 2)) (xVar 1) (xConst (.int 16))))) (xVar 1)
abbrev st__law_raised : Stmt := topS 41
abbrev N__law_raised : List Str := ["many", "e"]
abbrev P__law_raised : List Str := ["many"]
theorem S__law_raised : FnScope N__law_raised P__law_raised (defScope st__law_raised) := ⟨rfl, rfl, rfl, by decide +kernel, rfl, by decide +kernel, by decide +kernel⟩
def A__law_raised : AF := aCons (xVar 0) (aCons (xConst (.dict [])) (aCons (xConst (.int 0)) (aNil)))
def F__law_raised : FD := raisedD 2 "OutOfRange" T_Feasible_init A__law_raised 3
abbrev st_law : Stmt := topS 42
abbrev N_law : List Str := ["script", "draws", "number", "made", "k", "base", "many", "told", "t"]
abbrev P_law : List Str := ["script"]
theorem S_law : FnScope N_law P_law (defScope st_law) := ⟨rfl, rfl, rfl, by decide +kernel, rfl, by decide +kernel, by decide +kernel⟩
def E1_law : XF :=
    x2 eqD2 (xVar 8) (xVar 4)
def Y2_law : SF :=
    sSeq (sIf (tOrF (tNotF (tst (xIsE (isT knL "NetError" "NetError") (xIxE (xVarE 3) (xVar 4))))) (tOrF (tNotF (tst (xIsE isV (xIxE (xVarE 3) (xVar 4))))) (tst (x2 neD2 (xAtE kn (xIxE (xVarE 3) (xVar 4))) (x2 addD (xVar 2) (xVar 4)))))) (sRet (xConst (.bool false))) (sNext))
    (sSeq (sIf (tst (x2 neD2 (xCallK F__law_kinds (xIxE (xVarE 3) (xVar 4))) (xComp (iArgs rng1 (aCons (xLenE (xVarE 3)) (aNil))) (gN 8) (tTrue) (E1_law) [8]))) (sRet (xConst (.bool false))) (sNext))
    (sIf (tOrF (tst (xIsI false (xAtE kn (xIxE (xVarE 3) (xVar 4))))) (tNotF (tst (xIsI true (xAtE kn (xIxE (xVarE 3) (xVar 4))))))) (sRet (xConst (.bool false))) (sNext)))
def E3_law : XF :=
    x2 eqD2 (xVar 8) (xConst (.int 0))
def B_law : SF :=
    sSeq (sSet 1 (xCallS 0 F__law_draws))
    (sSeq (sSet 2 (x2 subD (xCall 3 F__law_mix (aCons (xVar 1) (aCons (xConst (.int 0)) (aCons (xConst (.int 60000)) (aNil))))) (xConst (.int 30000))))
    (sSeq (sSetE 3 (xCallY 1 F__law_made (aCons (xVar 2) (aNil))))
    (sSeq (sFor (iArgs rng1 (aCons (xLenE (xVarE 3)) (aNil))) (gN 4) (Y2_law))
    (sSeq (sSetE 5 (xMkE "NetError" (aCons (xVar 2) (aNil))))
    (sSeq (sIf (tOrF (tst (x2 neD2 (xAtE kn (xVarE 5)) (xVar 2))) (tOrF (tst (x2 inD2 (xConst (.bool true)) (xCallK F__law_kinds (xVarE 5)))) (tNotF (tst (xIsE isV (xVarE 5)))))) (sRet (xConst (.bool false))) (sNext))
    (sSeq (sSet 6 (x2 ixD (xLst (aCons (xConst (.int 0)) (aCons (xConst (.int 17)) (aCons (xConst (.int 99)) (aCons (x1 negD (xConst (.int 30))) (aNil)))))) (xCall 3 F__law_mix (aCons (xVar 1) (aCons (xConst (.int 1)) (aCons (xConst (.int 4)) (aNil)))))))
    (sSeq (sSetE 7 (xCallY 1 F__law_raised (aCons (xVar 6) (aNil))))
    (sRet (xBool (tAndF (tst (xSomeE (xVarE 7))) (tAndF (tst (x2 eqD2 (xAtE kn (xVarE 7)) (xVar 6))) (tst (x2 eqD2 (xCallK F__law_kinds (xVarE 7)) (xComp (iArgs rng1 (aCons (xLenE (xVarE 3)) (aNil))) (gN 8) (tTrue) (E3_law) [8]))))))))))))))
def F_law : FS := runS 9 B_law
structure Zs (K : PySem.W.Frag) (mg : Str → Option Value) : Prop where
  z_len : mg "len" = none
  z_min : mg "min" = none
  z_range : mg "range" = none
  z_abs : mg "abs" = none
  z_int : mg "int" = none
  z_isinstance : mg "isinstance" = none
  z_ValueError : mg "ValueError" = none
  z_bool : mg "bool" = none
  m_MOST_ROUTERS : ∃ t, mg "MOST_ROUTERS" = some (.int 16 t)
structure Es (P : Program) (K : PySem.W.Frag) (mg : Str → Option Value) (B f : Addr) : Prop where
  net : NetB P K mg B f
  tab : ∃ tab : List (Str × Addr), tab.map (·.1) = knL ∧ (tab.map (·.2)).Nodup ∧ (("NetError" : Str), B) ∈ tab ∧ ∀ p ∈ tab, ClT K B f p ∧ mg p.1 = some (.ref p.2)
section
variable {P : Program} {w : World} {K : PySem.W.Frag} {mg : Str → Option Value} {base : Heap} {Bn fn : Addr}
theorem Es.c (E : Es P K mg Bn fn) (x : Str) (h : kn x = true) : ∃ C, mg x = some (.ref C) ∧ PySem.W.nsIn K mainGlobals x = some (some (.ref C)) ∧ NetX K Bn fn C := by
  obtain ⟨tab, t1, t2, t3, t4⟩ := E.tab
  unfold kn at h
  rw [← t1] at h
  obtain ⟨C, m, n, X⟩ := tab_of (fun p hp => (t4 p hp).1) h
  exact ⟨C, (t4 _ m).2, n, X⟩
theorem at_ok (E : Es P K mg Bn fn) : ∀ c C, kn c = true → PySem.W.nsIn K mainGlobals c = some (some (.ref C)) → ∃ B g, NetX K B g C := fun c C hc hn => by
  obtain ⟨C', m, n, X⟩ := E.c c hc
  rw [hn] at n
  cases n
  exact ⟨_, _, X⟩
theorem exm_ok (E : Es P K mg Bn fn) {D0 : Addr} (h : mg "NetError" = some (.ref D0)) : ∀ C, mg "OutOfRange" = some (.ref C) → PySem.W.nsIn K mainGlobals "OutOfRange" = some (some (.ref C)) ∧ PySem.W.exmOne K (.ref C) (.ref D0) = some true := fun C hC => by
  obtain ⟨C', m, n, X⟩ := E.c "OutOfRange" rfl
  rw [hC] at m
  cases m
  refine ⟨n, ?_⟩
  obtain ⟨tab, t1, t2, t3, t4⟩ := E.tab
  have := (t4 _ t3).2
  rw [h] at this
  cases this
  exact tab_exm (fun p hp => (t4 p hp).1) t3 (by rw [t1]; rfl) n
theorem knL_nd : knL.Nodup := by decide +kernel
theorem is_ok (E : Es P K mg Bn fn) {y : Str} {D : Addr} (hy : PySem.W.nsIn K mainGlobals y = some (some (.ref D))) : ∀ c C z, isT knL "NetError" y c = some z → PySem.W.nsIn K mainGlobals c = some (some (.ref C)) → ∃ B g, NetX K B g C ∧ PySem.W.kitOne K (.ref C) (.ref D) = some z := fun c C z hz hn => by
  have hk : kn c = true := by
    unfold isT at hz
    split at hz
    · rename_i q; exact (Bool.and_eq_true_iff.mp q).1
    · cases hz
  obtain ⟨B, g, X⟩ := at_ok E c C hk hn
  obtain ⟨tab, t1, t2, t3, t4⟩ := E.tab
  rw [← t1] at hz
  exact ⟨B, g, X, tab_isa (fun p hp => (t4 p hp).1) t2 (by rw [t1]; exact knL_nd) t3 hz hn hy⟩
theorem isV_ok (E : Es P K mg Bn fn) : ∀ c C z, isV c = some z → PySem.W.nsIn K mainGlobals c = some (some (.ref C)) → ∃ B g, NetX K B g C ∧ PySem.W.kitOne K (.ref C) (.type "ValueError") = some z := fun c C z hz hn => by
  unfold isV at hz
  split at hz
  · rename_i hk
    cases hz
    obtain ⟨tab, t1, t2, t3, t4⟩ := E.tab
    unfold kn at hk
    rw [← t1] at hk
    obtain ⟨X, k⟩ := tab_isv (fun p hp => (t4 p hp).1) hk hn
    exact ⟨_, _, X, k⟩
  · cases hz
theorem ok__law_draws (Z : Zs K mg) (Er : Es P K mg Bn fn) {f : Addr} {fd : FuncData} (Fn : Fun K "_law_draws" "_law_draws" st__law_draws f fd) (hm : mg "_law_draws" = some (.ref f)) (hb : Binds K fd P__law_draws []) : DefS P w K mg base 1 "_law_draws" P__law_draws F__law_draws :=
  ⟨f, fd, fnG_script Fn S__law_draws rfl (by decide) (fun cdv A outer s H E hr hq =>
    have hu := hr.units
    es_seq (es_own (i := 1) S__law_draws.nd rfl (by first | exact .inl rfl | exact .inr rfl) (en_lst (ea_nil)))
      (es_seq (es_for (vs := [2]) PassesOwn.leaving rfl (ei_rng1 rfl Z.z_range (ea_cons (ex_blt (cr_min2 rfl) rfl Z.z_min rfl (ea_cons (ex_int) (ea_cons (ex_lenS (pv 0) rfl Z.z_len) (ea_nil)))) (ea_nil))) (eg_name (i := 2) S__law_draws.nd rfl (by first | exact .inl rfl | exact .inr rfl)) (es_seq (es_set (i := 3) S__law_draws.nd rfl (by first | exact .inl rfl | exact .inr rfl) (ex_blt cr_abs rfl Z.z_abs rfl (ea_cons (ex_atS (pv 0) (ex_var (pv 2)) (fun _ _ => rfl)) (ea_nil))))
      (es_one (es_if (et_cmp (op_geD hu) (ex_var (pv 3)) (ex_bin op_powD (ex_int) (ex_int))) (es_one (es_for (vs := [4]) PassesOwn.leaving rfl (ei_rng1 rfl Z.z_range (ea_cons (ex_int) (ea_nil))) (eg_name (i := 4) S__law_draws.nd rfl (by first | exact .inl rfl | exact .inr rfl)) (es_one (es_if (et_cmp (op_gtD hu) (ex_var (pv 3)) (ex_int)) (es_seq (es_drop (ex_mutL PySem.F.slot_list_append PySem.F.type_list_append mt_append mut_app (pv 1) (ea_cons (ex_bin op_modD (ex_bty cr_int rfl Z.z_int rfl (ea_cons (ex_var (pv 3)) (ea_nil))) (ex_int)) (ea_nil))))
      (es_one (es_set (i := 3) S__law_draws.nd rfl (by first | exact .inl rfl | exact .inr rfl) (ex_bin op_fdivD (ex_var (pv 3)) (ex_int))))) (es_nil))))) (es_seq (es_set (i := 5) S__law_draws.nd rfl (by first | exact .inl rfl | exact .inr rfl) (ex_bin op_modD (ex_bty cr_int rfl Z.z_int rfl (ea_cons (ex_bin op_addD (ex_bin op_mulD (ex_var (pv 3)) (ex_int)) (ex_bin op_mulD (ex_bin op_addD (ex_var (pv 2)) (ex_int)) (ex_int))) (ea_nil))) (ex_int)))
      (es_seq (es_set (i := 5) S__law_draws.nd rfl (by first | exact .inl rfl | exact .inr rfl) (ex_bin op_modD (ex_bty cr_int rfl Z.z_int rfl (ea_cons (ex_bin op_addD (ex_bin op_addD (ex_bin op_mulD (ex_var (pv 5)) (ex_int)) (ex_bin op_mulD (ex_int) (ex_var (pv 2)))) (ex_int)) (ea_nil))) (ex_int)))
      (es_seq (es_drop (ex_mutL PySem.F.slot_list_append PySem.F.type_list_append mt_append mut_app (pv 1) (ea_cons (ex_bin op_modD (ex_bty cr_int rfl Z.z_int rfl (ea_cons (ex_var (pv 5)) (ea_nil))) (ex_int)) (ea_nil))))
      (es_one (es_drop (ex_mutL PySem.F.slot_list_append PySem.F.type_list_append mt_append mut_app (pv 1) (ea_cons (ex_bin op_modD (ex_bty cr_int rfl Z.z_int rfl (ea_cons (ex_bin op_fdivD (ex_var (pv 5)) (ex_int)) (ea_nil))) (ex_int)) (ea_nil))))))))))))
      (es_one (es_ret (ex_var (pv 1)))))), hm, Fn.kp, hb⟩
theorem ok__law_mix (Z : Zs K mg) (Er : Es P K mg Bn fn) {f : Addr} {fd : FuncData} (Fn : Fun K "_law_mix" "_law_mix" st__law_mix f fd) (hm : mg "_law_mix" = some (.ref f)) (hb : Binds K fd P__law_mix []) : Def0 P w K mg base 1 "_law_mix" P__law_mix F__law_mix :=
  ⟨f, fd, fnG_pure Fn S__law_mix (fun ds _ => rfl) (fun cdv A outer s H E hr hq =>
    have hu := hr.units
    es_seq (es_set (i := 3) S__law_mix.nd rfl (by first | exact .inl rfl | exact .inr rfl) (ex_int))
      (es_seq (es_if (et_cmp (op_gtD hu) (ex_blt cr_lenD rfl Z.z_len rfl (ea_cons (ex_var (pv 0)) (ea_nil))) (ex_int)) (es_one (es_set (i := 3) S__law_mix.nd rfl (by first | exact .inl rfl | exact .inr rfl) (ex_ix hu (ex_var (pv 0)) (ex_bin op_modD (ex_bty cr_int rfl Z.z_int rfl (ea_cons (ex_var (pv 1)) (ea_nil))) (ex_blt cr_lenD rfl Z.z_len rfl (ea_cons (ex_var (pv 0)) (ea_nil)))) (fun _ _ => rfl)))) (es_nil))
      (es_seq (es_if (et_cmp (op_ltD hu) (ex_var (pv 1)) (ex_blt cr_lenD rfl Z.z_len rfl (ea_cons (ex_var (pv 0)) (ea_nil)))) (es_one (es_ret (ex_bin op_modD (ex_bty cr_int rfl Z.z_int rfl (ea_cons (ex_var (pv 3)) (ea_nil))) (ex_var (pv 2))))) (es_nil))
      (es_one (es_ret (ex_bin op_modD (ex_bty cr_int rfl Z.z_int rfl (ea_cons (ex_bin op_fdivD (ex_bty cr_int rfl Z.z_int rfl (ea_cons (ex_bin op_addD (ex_bin op_mulD (ex_var (pv 3)) (ex_int)) (ex_bin op_mulD (ex_var (pv 1)) (ex_int))) (ea_nil))) (ex_int)) (ea_nil))) (ex_var (pv 2)))))))), hm, Fn.kp, hb⟩
theorem ok__law_kinds (Z : Zs K mg) (Er : Es P K mg Bn fn) {f : Addr} {fd : FuncData} (Fn : Fun K "_law_kinds" "_law_kinds" st__law_kinds f fd) (hm : mg "_law_kinds" = some (.ref f)) (hb : Binds K fd P__law_kinds []) : DefK P w K mg base 1 "_law_kinds" P__law_kinds F__law_kinds :=
  ⟨f, fd, fnG_K Fn S__law_kinds rfl (by decide) (fun cdv A outer s H E hr hq =>
    have hu := hr.units
    es_one (es_ret (EN.ex (en_lst (ea_cons ((by obtain ⟨D, g1, g2, _⟩ := Er.c "OutOfRange" rfl; exact ex_isE (ee_var (pv 0)) (pe_glob (v := .ref D) rfl g1 rfl) (.own D) (is_ok Er g2) rfl Z.z_isinstance)) (ea_cons ((by obtain ⟨D, g1, g2, _⟩ := Er.c "TooMany" rfl; exact ex_isE (ee_var (pv 0)) (pe_glob (v := .ref D) rfl g1 rfl) (.own D) (is_ok Er g2) rfl Z.z_isinstance)) (ea_cons ((by obtain ⟨D, g1, g2, _⟩ := Er.c "BadPrefix" rfl; exact ex_isE (ee_var (pv 0)) (pe_glob (v := .ref D) rfl g1 rfl) (.own D) (is_ok Er g2) rfl Z.z_isinstance)) (ea_cons ((by obtain ⟨D, g1, g2, _⟩ := Er.c "BadTable" rfl; exact ex_isE (ee_var (pv 0)) (pe_glob (v := .ref D) rfl g1 rfl) (.own D) (is_ok Er g2) rfl Z.z_isinstance)) (ea_cons ((by obtain ⟨D, g1, g2, _⟩ := Er.c "BadFaults" rfl; exact ex_isE (ee_var (pv 0)) (pe_glob (v := .ref D) rfl g1 rfl) (.own D) (is_ok Er g2) rfl Z.z_isinstance)) (ea_cons ((by obtain ⟨D, g1, g2, _⟩ := Er.c "BadWay" rfl; exact ex_isE (ee_var (pv 0)) (pe_glob (v := .ref D) rfl g1 rfl) (.own D) (is_ok Er g2) rfl Z.z_isinstance)) (ea_cons ((by obtain ⟨D, g1, g2, _⟩ := Er.c "BadRouter" rfl; exact ex_isE (ee_var (pv 0)) (pe_glob (v := .ref D) rfl g1 rfl) (.own D) (is_ok Er g2) rfl Z.z_isinstance)) (ea_cons ((by obtain ⟨D, g1, g2, _⟩ := Er.c "BadLink" rfl; exact ex_isE (ee_var (pv 0)) (pe_glob (v := .ref D) rfl g1 rfl) (.own D) (is_ok Er g2) rfl Z.z_isinstance)) (ea_cons ((by obtain ⟨D, g1, g2, _⟩ := Er.c "BadCost" rfl; exact ex_isE (ee_var (pv 0)) (pe_glob (v := .ref D) rfl g1 rfl) (.own D) (is_ok Er g2) rfl Z.z_isinstance)) (ea_cons ((by obtain ⟨D, g1, g2, _⟩ := Er.c "BadEvent" rfl; exact ex_isE (ee_var (pv 0)) (pe_glob (v := .ref D) rfl g1 rfl) (.own D) (is_ok Er g2) rfl Z.z_isinstance)) (ea_cons ((by obtain ⟨D, g1, g2, _⟩ := Er.c "BadState" rfl; exact ex_isE (ee_var (pv 0)) (pe_glob (v := .ref D) rfl g1 rfl) (.own D) (is_ok Er g2) rfl Z.z_isinstance)) (ea_cons ((by obtain ⟨D, g1, g2, _⟩ := Er.c "BadNet" rfl; exact ex_isE (ee_var (pv 0)) (pe_glob (v := .ref D) rfl g1 rfl) (.own D) (is_ok Er g2) rfl Z.z_isinstance)) (ea_cons ((by obtain ⟨D, g1, g2, _⟩ := Er.c "BadPacket" rfl; exact ex_isE (ee_var (pv 0)) (pe_glob (v := .ref D) rfl g1 rfl) (.own D) (is_ok Er g2) rfl Z.z_isinstance)) (ea_cons ((by obtain ⟨D, g1, g2, _⟩ := Er.c "BadRule" rfl; exact ex_isE (ee_var (pv 0)) (pe_glob (v := .ref D) rfl g1 rfl) (.own D) (is_ok Er g2) rfl Z.z_isinstance)) (ea_cons ((by obtain ⟨D, g1, g2, _⟩ := Er.c "NoMessage" rfl; exact ex_isE (ee_var (pv 0)) (pe_glob (v := .ref D) rfl g1 rfl) (.own D) (is_ok Er g2) rfl Z.z_isinstance)) (ea_cons ((by obtain ⟨D, g1, g2, _⟩ := Er.c "BadTie" rfl; exact ex_isE (ee_var (pv 0)) (pe_glob (v := .ref D) rfl g1 rfl) (.own D) (is_ok Er g2) rfl Z.z_isinstance)) (ea_cons ((by obtain ⟨D, g1, g2, _⟩ := Er.c "BadOwner" rfl; exact ex_isE (ee_var (pv 0)) (pe_glob (v := .ref D) rfl g1 rfl) (.own D) (is_ok Er g2) rfl Z.z_isinstance)) (ea_cons ((by obtain ⟨D, g1, g2, _⟩ := Er.c "BadWish" rfl; exact ex_isE (ee_var (pv 0)) (pe_glob (v := .ref D) rfl g1 rfl) (.own D) (is_ok Er g2) rfl Z.z_isinstance)) (ea_cons ((by obtain ⟨D, g1, g2, _⟩ := Er.c "BadChange" rfl; exact ex_isE (ee_var (pv 0)) (pe_glob (v := .ref D) rfl g1 rfl) (.own D) (is_ok Er g2) rfl Z.z_isinstance)) (ea_cons ((by obtain ⟨D, g1, g2, _⟩ := Er.c "BadArea" rfl; exact ex_isE (ee_var (pv 0)) (pe_glob (v := .ref D) rfl g1 rfl) (.own D) (is_ok Er g2) rfl Z.z_isinstance)) (ea_cons ((by obtain ⟨D, g1, g2, _⟩ := Er.c "BadRange" rfl; exact ex_isE (ee_var (pv 0)) (pe_glob (v := .ref D) rfl g1 rfl) (.own D) (is_ok Er g2) rfl Z.z_isinstance)) (ea_cons ((by obtain ⟨D, g1, g2, _⟩ := Er.c "BadDomain" rfl; exact ex_isE (ee_var (pv 0)) (pe_glob (v := .ref D) rfl g1 rfl) (.own D) (is_ok Er g2) rfl Z.z_isinstance)) (ea_cons ((by obtain ⟨D, g1, g2, _⟩ := Er.c "BadHanding" rfl; exact ex_isE (ee_var (pv 0)) (pe_glob (v := .ref D) rfl g1 rfl) (.own D) (is_ok Er g2) rfl Z.z_isinstance)) (ea_cons ((by obtain ⟨D, g1, g2, _⟩ := Er.c "BadTeller" rfl; exact ex_isE (ee_var (pv 0)) (pe_glob (v := .ref D) rfl g1 rfl) (.own D) (is_ok Er g2) rfl Z.z_isinstance)) (ea_cons ((by obtain ⟨D, g1, g2, _⟩ := Er.c "BadLine" rfl; exact ex_isE (ee_var (pv 0)) (pe_glob (v := .ref D) rfl g1 rfl) (.own D) (is_ok Er g2) rfl Z.z_isinstance)) (ea_cons ((by obtain ⟨D, g1, g2, _⟩ := Er.c "BadDemand" rfl; exact ex_isE (ee_var (pv 0)) (pe_glob (v := .ref D) rfl g1 rfl) (.own D) (is_ok Er g2) rfl Z.z_isinstance)) (ea_nil))))))))))))))))))))))))))))))), hm, Fn.kp, hb⟩
theorem ok__law_made (Z : Zs K mg) (Er : Es P K mg Bn fn) {f : Addr} {fd : FuncData} (Fn : Fun K "_law_made" "_law_made" st__law_made f fd) (hm : mg "_law_made" = some (.ref f)) (hb : Binds K fd P__law_made []) : DefY P w K mg base 1 "_law_made" P__law_made F__law_made :=
  ⟨f, fd, fnG_Y Fn S__law_made rfl (fun cdv A outer s H E hr hq =>
    have hu := hr.units
    ee_lst (ees_cons ((by obtain ⟨C, g1, g2, TC⟩ := Er.c "OutOfRange" rfl; exact ee_mk Er.net TC.net g1 g2 hr (ea_cons (ex_bin op_addD (ex_var (pv 0)) (ex_int)) (ea_nil)) rfl)) (ees_cons ((by obtain ⟨C, g1, g2, TC⟩ := Er.c "TooMany" rfl; exact ee_mk Er.net TC.net g1 g2 hr (ea_cons (ex_bin op_addD (ex_var (pv 0)) (ex_int)) (ea_nil)) rfl)) (ees_cons ((by obtain ⟨C, g1, g2, TC⟩ := Er.c "BadPrefix" rfl; exact ee_mk Er.net TC.net g1 g2 hr (ea_cons (ex_bin op_addD (ex_var (pv 0)) (ex_int)) (ea_nil)) rfl)) (ees_cons ((by obtain ⟨C, g1, g2, TC⟩ := Er.c "BadTable" rfl; exact ee_mk Er.net TC.net g1 g2 hr (ea_cons (ex_bin op_addD (ex_var (pv 0)) (ex_int)) (ea_nil)) rfl)) (ees_cons ((by obtain ⟨C, g1, g2, TC⟩ := Er.c "BadFaults" rfl; exact ee_mk Er.net TC.net g1 g2 hr (ea_cons (ex_bin op_addD (ex_var (pv 0)) (ex_int)) (ea_nil)) rfl)) (ees_cons ((by obtain ⟨C, g1, g2, TC⟩ := Er.c "BadWay" rfl; exact ee_mk Er.net TC.net g1 g2 hr (ea_cons (ex_bin op_addD (ex_var (pv 0)) (ex_int)) (ea_nil)) rfl)) (ees_cons ((by obtain ⟨C, g1, g2, TC⟩ := Er.c "BadRouter" rfl; exact ee_mk Er.net TC.net g1 g2 hr (ea_cons (ex_bin op_addD (ex_var (pv 0)) (ex_int)) (ea_nil)) rfl)) (ees_cons ((by obtain ⟨C, g1, g2, TC⟩ := Er.c "BadLink" rfl; exact ee_mk Er.net TC.net g1 g2 hr (ea_cons (ex_bin op_addD (ex_var (pv 0)) (ex_int)) (ea_nil)) rfl)) (ees_cons ((by obtain ⟨C, g1, g2, TC⟩ := Er.c "BadCost" rfl; exact ee_mk Er.net TC.net g1 g2 hr (ea_cons (ex_bin op_addD (ex_var (pv 0)) (ex_int)) (ea_nil)) rfl)) (ees_cons ((by obtain ⟨C, g1, g2, TC⟩ := Er.c "BadEvent" rfl; exact ee_mk Er.net TC.net g1 g2 hr (ea_cons (ex_bin op_addD (ex_var (pv 0)) (ex_int)) (ea_nil)) rfl)) (ees_cons ((by obtain ⟨C, g1, g2, TC⟩ := Er.c "BadState" rfl; exact ee_mk Er.net TC.net g1 g2 hr (ea_cons (ex_bin op_addD (ex_var (pv 0)) (ex_int)) (ea_nil)) rfl)) (ees_cons ((by obtain ⟨C, g1, g2, TC⟩ := Er.c "BadNet" rfl; exact ee_mk Er.net TC.net g1 g2 hr (ea_cons (ex_bin op_addD (ex_var (pv 0)) (ex_int)) (ea_nil)) rfl)) (ees_cons ((by obtain ⟨C, g1, g2, TC⟩ := Er.c "BadPacket" rfl; exact ee_mk Er.net TC.net g1 g2 hr (ea_cons (ex_bin op_addD (ex_var (pv 0)) (ex_int)) (ea_nil)) rfl)) (ees_cons ((by obtain ⟨C, g1, g2, TC⟩ := Er.c "BadRule" rfl; exact ee_mk Er.net TC.net g1 g2 hr (ea_cons (ex_bin op_addD (ex_var (pv 0)) (ex_int)) (ea_nil)) rfl)) (ees_cons ((by obtain ⟨C, g1, g2, TC⟩ := Er.c "NoMessage" rfl; exact ee_mk Er.net TC.net g1 g2 hr (ea_cons (ex_bin op_addD (ex_var (pv 0)) (ex_int)) (ea_nil)) rfl)) (ees_cons ((by obtain ⟨C, g1, g2, TC⟩ := Er.c "BadTie" rfl; exact ee_mk Er.net TC.net g1 g2 hr (ea_cons (ex_bin op_addD (ex_var (pv 0)) (ex_int)) (ea_nil)) rfl)) (ees_cons ((by obtain ⟨C, g1, g2, TC⟩ := Er.c "BadOwner" rfl; exact ee_mk Er.net TC.net g1 g2 hr (ea_cons (ex_bin op_addD (ex_var (pv 0)) (ex_int)) (ea_nil)) rfl)) (ees_cons ((by obtain ⟨C, g1, g2, TC⟩ := Er.c "BadWish" rfl; exact ee_mk Er.net TC.net g1 g2 hr (ea_cons (ex_bin op_addD (ex_var (pv 0)) (ex_int)) (ea_nil)) rfl)) (ees_cons ((by obtain ⟨C, g1, g2, TC⟩ := Er.c "BadChange" rfl; exact ee_mk Er.net TC.net g1 g2 hr (ea_cons (ex_bin op_addD (ex_var (pv 0)) (ex_int)) (ea_nil)) rfl)) (ees_cons ((by obtain ⟨C, g1, g2, TC⟩ := Er.c "BadArea" rfl; exact ee_mk Er.net TC.net g1 g2 hr (ea_cons (ex_bin op_addD (ex_var (pv 0)) (ex_int)) (ea_nil)) rfl)) (ees_cons ((by obtain ⟨C, g1, g2, TC⟩ := Er.c "BadRange" rfl; exact ee_mk Er.net TC.net g1 g2 hr (ea_cons (ex_bin op_addD (ex_var (pv 0)) (ex_int)) (ea_nil)) rfl)) (ees_cons ((by obtain ⟨C, g1, g2, TC⟩ := Er.c "BadDomain" rfl; exact ee_mk Er.net TC.net g1 g2 hr (ea_cons (ex_bin op_addD (ex_var (pv 0)) (ex_int)) (ea_nil)) rfl)) (ees_cons ((by obtain ⟨C, g1, g2, TC⟩ := Er.c "BadHanding" rfl; exact ee_mk Er.net TC.net g1 g2 hr (ea_cons (ex_bin op_addD (ex_var (pv 0)) (ex_int)) (ea_nil)) rfl)) (ees_cons ((by obtain ⟨C, g1, g2, TC⟩ := Er.c "BadTeller" rfl; exact ee_mk Er.net TC.net g1 g2 hr (ea_cons (ex_bin op_addD (ex_var (pv 0)) (ex_int)) (ea_nil)) rfl)) (ees_cons ((by obtain ⟨C, g1, g2, TC⟩ := Er.c "BadLine" rfl; exact ee_mk Er.net TC.net g1 g2 hr (ea_cons (ex_bin op_addD (ex_var (pv 0)) (ex_int)) (ea_nil)) rfl)) (ees_cons ((by obtain ⟨C, g1, g2, TC⟩ := Er.c "BadDemand" rfl; exact ee_mk Er.net TC.net g1 g2 hr (ea_cons (ex_bin op_addD (ex_var (pv 0)) (ex_int)) (ea_nil)) rfl)) (ees_nil)))))))))))))))))))))))))))), hm, Fn.kp, hb⟩
theorem ok_Feasible_init (Z : Zs K mg) (Er : Es P K mg Bn fn) {f : Addr} {fd : FuncData} (Fn : Fun K "__init__" "Feasible.__init__" st_Feasible_init f fd) : FnG P w K mg base 2 f fd P_Feasible_init (spI K w mg 3 "OutOfRange" T_Feasible_init) := by
  obtain ⟨C, g1, g2, TC⟩ := Er.c "OutOfRange" rfl
  exact fnG_I (k := 1) Fn S_Feasible_init rfl (by decide) Er.net TC.net g1 (by decide) (fun cdv A outer s H E hr hq =>
    have hu := hr.units
    ⟨et_not (et_chain (op_leD hu) (op_leD hu) (ex_int) (ex_var (pv 1)) ((by obtain ⟨t, ht⟩ := Z.m_MOST_ROUTERS; exact ex_globI rfl ht))), ex_var (pv 1), rfl, (takes_of rfl rfl rfl rfl), rfl, hr, rfl, rfl⟩)
theorem ok__law_raised (Z : Zs K mg) (Er : Es P K mg Bn fn) {CF fI : Addr} {fdI : FuncData} (M : Mk K CF fI) (gC : mg "Feasible" = some (.ref CF)) (GI : FnG P w K mg base 2 fI fdI P_Feasible_init (spI K w mg 3 "OutOfRange" T_Feasible_init)) (bI : Binds K fdI P_Feasible_init []) {f : Addr} {fd : FuncData} (Fn : Fun K "_law_raised" "_law_raised" st__law_raised f fd) (hm : mg "_law_raised" = some (.ref f)) (hb : Binds K fd P__law_raised []) : DefY P w K mg base 4 "_law_raised" P__law_raised F__law_raised := by
  obtain ⟨B0, h1, h2, TB⟩ := Er.c "NetError" rfl
  exact ⟨f, fd, fnG_raised (k := 3) Fn S__law_raised rfl M GI (by decide) gC bI (exm_ok Er h1) rfl rfl rfl h1 (fun cdv A outer s H E hr hq X hX => by subst hX; exact ⟨rfl, rfl, rfl, rfl, hq, hr, fun a oe pn => pv 1, fun W pn xx tk => ⟨rfl, ea_cons (ex_var (pv 0)) (ea_cons (EN.ex (en_dict0)) (ea_cons (ex_int) (ea_nil))), rfl, rfl, rfl⟩⟩), hm, Fn.kp, hb⟩
theorem fn_law (Z : Zs K mg) (Er : Es P K mg Bn fn) (d__law_mix : Def0 P w K mg base 1 "_law_mix" P__law_mix F__law_mix) (d__law_kinds : DefK P w K mg base 1 "_law_kinds" P__law_kinds F__law_kinds) (d__law_made : DefY P w K mg base 1 "_law_made" P__law_made F__law_made) (d__law_raised : DefY P w K mg base 4 "_law_raised" P__law_raised F__law_raised) (d__law_draws : DefS P w K mg base 1 "_law_draws" P__law_draws F__law_draws) {f : Addr} {fd : FuncData} (Fn : Fun K "law" "law" st_law f fd) : FnG P w K mg base 5 f fd P_law (spS K w mg F_law) :=
  fnG_script Fn S_law rfl (by decide) (fun cdv A outer s H E hr hq =>
    have hu := hr.units
    es_seq (es_set (i := 1) S_law.nd rfl (by first | exact .inl rfl | exact .inr rfl) (ex_callS d__law_draws hr (by omega) hq rfl (takes_of rfl rfl rfl rfl) (pv 0)))
      (es_seq (es_set (i := 2) S_law.nd rfl (by first | exact .inl rfl | exact .inr rfl) (ex_bin op_subD (ex_callD (ps := P__law_mix) d__law_mix hr (by omega) hq rfl (takes_of rfl rfl rfl rfl) (ea_cons (ex_var (pv 1)) (ea_cons (ex_int) (ea_cons (ex_int) (ea_nil))))) (ex_int)))
      (es_seq (es_setE (i := 3) S_law.nd rfl (by first | exact .inl rfl | exact .inr rfl) (ee_callY (ps := P__law_made) d__law_made hr (by omega) hq rfl (takes_of rfl rfl rfl rfl) (ea_cons (ex_var (pv 2)) (ea_nil))))
      (es_seq (es_for (vs := [4]) PassesOwn.leaving rfl (ei_rng1 rfl Z.z_range (ea_cons (ex_lenE (ee_var (pv 3)) rfl Z.z_len) (ea_nil))) (eg_name (i := 4) S_law.nd rfl (by first | exact .inl rfl | exact .inr rfl)) (es_seq (es_if (et_bool (ew_or (et_not (et_val ((by obtain ⟨D, g1, g2, _⟩ := Er.c "NetError" rfl; exact ex_isE (ee_ix (ee_var (pv 3)) (ex_var (pv 4)) (fun _ _ => rfl)) (pe_glob (v := .ref D) rfl g1 rfl) (.own D) (is_ok Er g2) rfl Z.z_isinstance)))) (ew_or (et_not (et_val (ex_isE (ee_ix (ee_var (pv 3)) (ex_var (pv 4)) (fun _ _ => rfl)) (pe_bltn (v := .ty "ValueError") (u := .type "ValueError") rfl Z.z_ValueError rfl rfl) (.ty "ValueError") (isV_ok Er) rfl Z.z_isinstance))) (ew_or1 (et_cmp (op_neD2 hu) (ex_atE (ee_ix (ee_var (pv 3)) (ex_var (pv 4)) (fun _ _ => rfl)) (at_ok Er)) (ex_bin op_addD (ex_var (pv 2)) (ex_var (pv 4)))))))) (es_one (es_ret (ex_bl))) (es_nil))
      (es_seq (es_if (et_cmp (op_neD2 hu) (ex_callK (ps := P__law_kinds) d__law_kinds hr (by omega) hq rfl (takes_of rfl rfl rfl rfl) (ee_ix (ee_var (pv 3)) (ex_var (pv 4)) (fun _ _ => rfl))) (EN.ex (en_comp rfl S_law.nd (own := [("t", 8)]) (ei_rng1 rfl Z.z_range (ea_cons (ex_lenE (ee_var (pv 3)) rfl Z.z_len) (ea_nil))) (blkOk_by (own := [("t", 8)]) (N := N_law) (sc := defScope st_law) (by decide +kernel)) (us := [8]) (by decide) (fun _ _ _ _ _ => eg_name (i := 8) S_law.nd rfl (by first | exact .inl rfl | exact .inr rfl)) (fun _ _ _ _ _ => eq_nil) (fun _ _ _ _ _ => ex_cmp (op_eqD2 hu) (ex_var (pv 8)) (ex_var (pv 4)))))) (es_one (es_ret (ex_bl))) (es_nil))
      (es_one (es_if (et_bool (ew_or (et_val (ex_isI (ex_atE (ee_ix (ee_var (pv 3)) (ex_var (pv 4)) (fun _ _ => rfl)) (at_ok Er)) (pe_bltn rfl Z.z_bool rfl rfl) (by decide +kernel) rfl Z.z_isinstance)) (ew_or1 (et_not (et_val (ex_isI (ex_atE (ee_ix (ee_var (pv 3)) (ex_var (pv 4)) (fun _ _ => rfl)) (at_ok Er)) (pe_bltn rfl Z.z_int rfl rfl) (by decide +kernel) rfl Z.z_isinstance)))))) (es_one (es_ret (ex_bl))) (es_nil))))))
      (es_seq (es_setE (i := 5) S_law.nd rfl (by first | exact .inl rfl | exact .inr rfl) ((by obtain ⟨C, g1, g2, TC⟩ := Er.c "NetError" rfl; exact ee_mk Er.net TC.net g1 g2 hr (ea_cons (ex_var (pv 2)) (ea_nil)) rfl)))
      (es_seq (es_if (et_bool (ew_or (et_cmp (op_neD2 hu) (ex_atE (ee_var (pv 5)) (at_ok Er)) (ex_var (pv 2))) (ew_or (et_cmp (op_inD2 hu) (ex_bl) (ex_callK (ps := P__law_kinds) d__law_kinds hr (by omega) hq rfl (takes_of rfl rfl rfl rfl) (ee_var (pv 5)))) (ew_or1 (et_not (et_val (ex_isE (ee_var (pv 5)) (pe_bltn (v := .ty "ValueError") (u := .type "ValueError") rfl Z.z_ValueError rfl rfl) (.ty "ValueError") (isV_ok Er) rfl Z.z_isinstance))))))) (es_one (es_ret (ex_bl))) (es_nil))
      (es_seq (es_set (i := 6) S_law.nd rfl (by first | exact .inl rfl | exact .inr rfl) (ex_ix hu (EN.ex (en_lst (ea_cons (ex_int) (ea_cons (ex_int) (ea_cons (ex_int) (ea_cons (ex_un un_negD (ex_int)) (ea_nil))))))) (ex_callD (ps := P__law_mix) d__law_mix hr (by omega) hq rfl (takes_of rfl rfl rfl rfl) (ea_cons (ex_var (pv 1)) (ea_cons (ex_int) (ea_cons (ex_int) (ea_nil))))) (fun _ _ => rfl)))
      (es_seq (es_setE (i := 7) S_law.nd rfl (by first | exact .inl rfl | exact .inr rfl) (ee_callY (ps := P__law_raised) d__law_raised hr (by omega) hq rfl (takes_of rfl rfl rfl rfl) (ea_cons (ex_var (pv 6)) (ea_nil))))
      (es_one (es_ret (ex_and (ex_someE (ee_var (pv 7))) (ex_and (ex_cmp (op_eqD2 hu) (ex_atE (ee_var (pv 7)) (at_ok Er)) (ex_var (pv 6))) (ex_one (ex_cmp (op_eqD2 hu) (ex_callK (ps := P__law_kinds) d__law_kinds hr (by omega) hq rfl (takes_of rfl rfl rfl rfl) (ee_var (pv 7))) (EN.ex (en_comp rfl S_law.nd (own := [("t", 8)]) (ei_rng1 rfl Z.z_range (ea_cons (ex_lenE (ee_var (pv 3)) rfl Z.z_len) (ea_nil))) (blkOk_by (own := [("t", 8)]) (N := N_law) (sc := defScope st_law) (by decide +kernel)) (us := [8]) (by decide) (fun _ _ _ _ _ => eg_name (i := 8) S_law.nd rfl (by first | exact .inl rfl | exact .inr rfl)) (fun _ _ _ _ _ => eq_nil) (fun _ _ _ _ _ => ex_cmp (op_eqD2 hu) (ex_var (pv 8)) (ex_int))))))))))))))))))
end
end K00
set_option Elab.async false
set_option linter.all false
set_option maxRecDepth 100000
namespace K00
open PySem DP
/-! ### words, in any environment -/
theorem if_no {c : TF} {f g : SF} {env e1 : Ev} (h : c env = .ok (false, e1)) : sIf c f g env = g e1 := by unfold sIf; rw [h]; rfl
theorem if_yes {c : TF} {f g : SF} {env e1 : Ev} (h : c env = .ok (true, e1)) : sIf c f g env = f e1 := by unfold sIf; rw [h]; rfl
theorem skip_ok {c : TF} {f : SF} {env e1 : Ev} (h : c env = .ok (false, e1)) : sIf c f sNext env = .ok (.nx, e1) := by rw [if_no h]; rfl
theorem tor_ok {t u : TF} {env : Ev} {b c : Bool} (h1 : t env = .ok (b, env)) (h2 : b = false → u env = .ok (c, env)) : tOrF t u env = .ok (b || c, env) := by
  unfold tOrF
  rw [h1]
  cases b with
  | true => rfl
  | false => simp only [Out.bind_ok, Bool.false_eq_true, if_false, h2 rfl, Bool.false_or]
theorem tand_ok {t u : TF} {env : Ev} {b c : Bool} (h1 : t env = .ok (b, env)) (h2 : b = true → u env = .ok (c, env)) : tAndF t u env = .ok (b && c, env) := by
  unfold tAndF
  rw [h1]
  cases b with
  | false => rfl
  | true => simp only [Out.bind_ok, if_true, h2 rfl, Bool.true_and]
theorem tnot_ok {t : TF} {env e1 : Ev} {b : Bool} (h1 : t env = .ok (b, e1)) : tNotF t env = .ok (!b, e1) := by
  unfold tNotF
  rw [h1]
  rfl
theorem tst_ok {f : XF} {env e1 : Ev} {b : Bool} (h1 : f env = .ok (.bool b, e1)) : tst f env = .ok (b, e1) := by
  unfold tst
  rw [h1]
  rfl
theorem bool_ok {t : TF} {env e1 : Ev} {b : Bool} (h1 : t env = .ok (b, e1)) : xBool t env = .ok (.bool b, e1) := by
  rw [xBool_ap, h1]
  rfl
theorem xif_ok {t : TF} {f g : XF} {env e1 e2 : Ev} {b : Bool} {d : D} (h1 : t env = .ok (b, e1)) (h2 : b = true → f e1 = .ok (d, e2)) (h3 : b = false → g e1 = .ok (d, e2)) : xIf t f g env = .ok (d, e2) := by
  rw [xIf_ap, h1]
  cases b with
  | true => exact h2 rfl
  | false => exact h3 rfl
theorem x2_ok {op : D → D → Option D} {f g : XF} {env e1 e2 : Ev} {x y z : D} (h1 : f env = .ok (x, e1)) (h2 : g e1 = .ok (y, e2)) (h3 : op x y = some z) : x2 op f g env = .ok (z, e2) := by
  unfold x2
  rw [h1]
  simp only [Out.bind_ok, h2, h3, liftO_some]
theorem x1_ok {op : D → Option D} {f : XF} {env e1 : Ev} {x z : D} (h1 : f env = .ok (x, e1)) (h3 : op x = some z) : x1 op f env = .ok (z, e1) := by
  unfold x1
  rw [h1]
  simp only [Out.bind_ok, h3, liftO_some]
theorem xn1_ok {on : List D → Option D} {f : XF} {env e1 : Ev} {d z : D} (h : f env = .ok (d, e1)) (h2 : on [d] = some z) : xn on (aCons f aNil) env = .ok (z, e1) := by
  simp only [xn_ap, aCons_ap, h, Out.bind_ok, aNil_ap, h2, liftO_some]
theorem xn_ok {on : List D → Option D} {g : AF} {env e1 : Ev} {ds : List D} {z : D} (h : g env = .ok (ds, e1)) (h2 : on ds = some z) : xn on g env = .ok (z, e1) := by
  simp only [xn_ap, h, Out.bind_ok, h2, liftO_some]
theorem a1_ok {f : XF} {env e1 : Ev} {x : D} (h1 : f env = .ok (x, e1)) : aCons f aNil env = .ok ([x], e1) := by
  simp only [aCons_ap, h1, Out.bind_ok, aNil_ap]
theorem ac_ok {f : XF} {g : AF} {env e1 e2 : Ev} {x : D} {xs : List D} (h1 : f env = .ok (x, e1)) (h2 : g e1 = .ok (xs, e2)) : aCons f g env = .ok (x :: xs, e2) := by
  simp only [aCons_ap, h1, h2, Out.bind_ok]
theorem a2_ok {f g : XF} {env : Ev} {x y : D} (h1 : f env = .ok (x, env)) (h2 : g env = .ok (y, env)) : aCons f (aCons g aNil) env = .ok ([x, y], env) := ac_ok h1 (a1_ok h2)
theorem a3_ok {f g k : XF} {env : Ev} {x y z : D} (h1 : f env = .ok (x, env)) (h2 : g env = .ok (y, env)) (h3 : k env = .ok (z, env)) : aCons f (aCons g (aCons k aNil)) env = .ok ([x, y, z], env) := ac_ok h1 (a2_ok h2 h3)
theorem a4_ok {f g h k : XF} {env : Ev} {x y z u : D} (h1 : f env = .ok (x, env)) (h2 : g env = .ok (y, env)) (h3 : h env = .ok (z, env)) (h4 : k env = .ok (u, env)) : aCons f (aCons g (aCons h (aCons k aNil))) env = .ok ([x, y, z, u], env) := ac_ok h1 (a3_ok h2 h3 h4)
theorem a5_ok {f g h k l : XF} {env : Ev} {x y z u v : D} (h1 : f env = .ok (x, env)) (h2 : g env = .ok (y, env)) (h3 : h env = .ok (z, env)) (h4 : k env = .ok (u, env)) (h5 : l env = .ok (v, env)) : aCons f (aCons g (aCons h (aCons k (aCons l aNil)))) env = .ok ([x, y, z, u, v], env) := ac_ok h1 (a4_ok h2 h3 h4 h5)
theorem lst_ok {g : AF} {env e1 : Ev} {ds : List D} (h : g env = .ok (ds, e1)) (hl : ds.length ≤ 10000) : xLst g env = .ok (.list ds, e1) := by
  simp only [xLst_ap, h, Out.bind_ok]
  rw [if_pos (by rw [sizeLine_eq]; omega)]
  rfl
theorem tup_ok {g : AF} {env e1 : Ev} {ds : List D} (h : g env = .ok (ds, e1)) (hl : ds.length ≤ 10000) : xTup g env = .ok (.tuple ds, e1) := by
  simp only [xTup_ap, h, Out.bind_ok]
  rw [if_pos (by rw [sizeLine_eq]; omega)]
  rfl
theorem lnil_ok {env : Ev} : xLst aNil env = .ok (iL [], env) := lst_ok aNil_ap (by simp)
theorem it_ok {f : XF} {env e1 : Ev} {d : D} {xs : List D} (h : f env = .ok (d, e1)) (h2 : itD d = some xs) : iIt f env = .ok (xs, e1) := by
  simp only [iIt_ap, h, Out.bind_ok, h2, liftO_some]
theorem set_ok {i : Nat} {f : XF} {env e1 : Ev} {d : D} (h : f env = .ok (d, e1)) : sSet i f env = .ok (.nx, e1.set i (.fz d)) := by
  simp only [sSet_ap, h, Out.bind_ok]
theorem own_ok {i : Nat} {f : XF} {env e1 : Ev} {d : D} (h : f env = .ok (d, e1)) : sOwn i f env = .ok (.nx, e1.set i (.ow none d)) := by
  simp only [sOwn_ap, h, Out.bind_ok]
theorem drop_ok {f : XF} {env e1 : Ev} {d : D} (h : f env = .ok (d, e1)) : sDrop f env = .ok (.nx, e1) := by
  simp only [sDrop_ap, h, Out.bind_ok]
theorem ret_ok {f : XF} {env e1 : Ev} {d : D} (h : f env = .ok (d, e1)) : sRet f env = .ok (.rt d, e1) := by
  simp only [sRet_ap, h, Out.bind_ok]
theorem for_ok {it : IF} {g : GF} {b : SF} {env e1 : Ev} {xs : List D} (h : it env = .ok (xs, e1)) : sFor it g b env = forL g b xs e1 := by
  simp only [sFor_ap, h, Out.bind_ok]
theorem call_ok {n : Nat} {F : FD} {g : AF} {env e1 : Ev} {ds : List D} {d : D} (h : g env = .ok (ds, e1)) (h2 : ds.length = n) (h3 : F ds = .ok d) : xCall n F g env = .ok (d, e1) := by
  unfold xCall
  rw [h]
  simp only [Out.bind_ok]
  rw [if_pos h2, h3]
theorem mutL_ok {i : Nat} {op : List D → List D → Option (D × List D)} {g : AF} {env e1 : Ev} {t0 t : Option Nat} {v0 ds ds' as : List D} {z : D} (h0 : env[i]? = some (.ow t0 (.list v0))) (h : g env = .ok (as, e1)) (h1 : e1[i]? = some (.ow t (.list ds))) (h2 : op ds as = some (z, ds')) : xMutL i op g env = .ok (z, e1.set i (.ow t (.list ds'))) := by
  unfold xMutL
  rw [h0]
  simp only [h, Out.bind_ok, h1, h2]
theorem x2B_ok {op : D → D → Option D} {f : XF} {i : Nat} {env e1 : Ev} {x c z : D} (h1 : f env = .ok (x, e1)) (h2 : slotC e1 i = some c) (h3 : op x c = some z) : x2B op f i env = .ok (z, e1) := by
  simp only [x2B_ap, h1, Out.bind_ok, h2, h3, liftO_some]
theorem ixB_ok {g : XF} {i : Nat} {env e1 : Ev} {x c0 c z : D} (h0 : slotC env i = some c0) (h1 : g env = .ok (x, e1)) (h2 : slotC e1 i = some c) (h3 : ixD c x = some z) : xIxB i g env = .ok (z, e1) := by
  simp only [xIxB_ap h0, h1, Out.bind_ok, h2, h3, liftO_some]
theorem lenB_ok {i : Nat} {env : Ev} {c z : D} (h0 : slotC env i = some c) (h3 : lenD [c] = some z) : xLenB i env = .ok (z, env) := by
  simp only [xLenB_ap h0, h3, liftO_some]
theorem getB_ok {i : Nat} {g : AF} {env : Ev} {kvs : List (D × D)} {k x : D} (h0 : slotC env i = some (.dict kvs)) (h1 : g env = .ok ([k, x], env)) (h2 : keyOk k = true) : xGetB i g env = .ok ((dAt kvs k).getD x, env) := by
  unfold xGetB
  rw [h0]
  simp only [h1, Out.bind_ok, h0]
  rw [if_pos h2]
theorem popK_ok {i : Nat} {f : XF} {env : Ev} {t : Option Nat} {kvs : List (D × D)} {k d : D} (h0 : env[i]? = some (.ow t (.dict kvs))) (h1 : f env = .ok (k, env)) (h2 : keyOk k = true) (h3 : dAt kvs k = some d) : xPopK i (aCons f aNil) env = .ok (d, env.set i (.ow t (.dict (dDrop kvs k)))) := by
  unfold xPopK
  rw [h0]
  simp only [a1_ok h1, Out.bind_ok, h0, h3]
  rw [if_pos h2]
theorem sortA_ok {f : XF} {env e1 : Ev} {xs : List Int} (h : f env = .ok (iL xs, e1)) (hl : xs.length < 64) : xSortSetA f env = .ok (iL (setZ xs), e1) := by
  unfold xSortSetA
  rw [h]
  show liftO (sortSetA (.list (xs.map .int))) e1 = _
  unfold sortSetA
  simp only [intsD_map]
  rw [if_pos (by rw [List.length_map]; exact hl)]
  rfl
theorem sortT_ok {f : XF} {env e1 : Ev} {xs : List Int} (h : f env = .ok (tupI xs, e1)) (hl : xs.length < 64) : xSortSetA f env = .ok (iL (setZ xs), e1) := by
  unfold xSortSetA
  rw [h]
  show liftO (sortSetA (.tuple (xs.map .int))) e1 = _
  unfold sortSetA
  simp only [intsD_map]
  rw [if_pos (by rw [List.length_map]; exact hl)]
  rfl
theorem peek_ok {f : XF} {env e1 : Ev} {d : D} (h : f (frzE env) = .ok (d, e1)) (hf : flatD d = true) : xPeek f env = .ok (d, env) := by
  unfold xPeek
  rw [h]
  exact if_pos hf
theorem tpeek_ok {f : TF} {env e1 : Ev} {b : Bool} (h : f (frzE env) = .ok (b, e1)) : tPeek f env = .ok (b, env) := by
  unfold tPeek
  rw [h]
theorem xcomp_ok {it : IF} {g : GF} {ts : TF} {el : XF} {vs : List Nat} {env e1 e2 : Ev} {xs ys : List D} (h1 : it env = .ok (xs, e1)) (h2 : cmpL g ts el vs xs (wipeE e1 vs) = .ok (ys, e2)) (h3 : ys.length ≤ 100000) : xComp it g ts el vs env = .ok (.list ys, backE e1 e2 vs) := by
  simp only [xComp_ap, h1, Out.bind_ok, h2]
  rw [if_pos (by rw [sizeLine_eq]; omega)]
  rfl
/-- a loop, by what holds behind each turn -/
theorem for_in {α : Type} {F : α → D} {g : GF} {body : SF} (I : List α → Ev → Prop) : ∀ (L done : List α) (env : Ev), (∀ d a r env, done ++ L = d ++ a :: r → I d env → ∃ e1 e2, g (F a) env = some e1 ∧ (body e1 = .ok (.nx, e2) ∨ body e1 = .ok (.ct, e2)) ∧ I (d ++ [a]) e2) → I done env →
    ∃ e2, forL g body (L.map F) env = .ok (.nx, e2) ∧ I (done ++ L) e2
  | [], done, env, _, h => ⟨env, rfl, by rw [List.append_nil]; exact h⟩
  | a :: L, done, env, h, hI => by
    obtain ⟨e1, e2, h1, h2, h3⟩ := h done a L env rfl hI
    obtain ⟨e3, h4, h5⟩ := for_in I L (done ++ [a]) e2 (fun d a' r env e => h d a' r env (by rw [← e]; simp)) h3
    refine ⟨e3, ?_, by have := h5; rwa [List.append_assoc] at this⟩
    rw [List.map_cons]
    conv => lhs; unfold forL
    rw [h1]
    rcases h2 with h2 | h2 <;> simp only [h2, Out.bind_ok] <;> exact h4
/-! ### routers 0 .. n - 1 -/
def R (n : Nat) : List Int := (List.range n).map fun (i : Nat) => (i : Int)
theorem mem_R {n : Nat} {r : Int} : r ∈ R n ↔ 0 ≤ r ∧ r < n := by
  unfold R
  rw [List.mem_map]
  constructor
  · rintro ⟨i, hi, rfl⟩
    have := List.mem_range.mp hi
    omega
  · rintro ⟨h1, h2⟩
    exact ⟨r.toNat, List.mem_range.mpr (by omega), by omega⟩
theorem R_len (n : Nat) : (R n).length = n := by simp [R]
theorem R_pw (n : Nat) : (R n).Pairwise (· < ·) := by
  unfold R
  rw [List.pairwise_map]
  exact List.pairwise_lt_range.imp fun h => by omega
theorem R_nodup (n : Nat) : (R n).Nodup := (R_pw n).imp fun h => Int.ne_of_lt h
theorem R_succ (i : Nat) : R (i + 1) = R i ++ [(i : Int)] := by
  unfold R
  rw [List.range_succ, List.map_append]
  rfl
theorem nodup_len {l : List Int} : ∀ (ks m : List Int), ks.Nodup → (∀ a ∈ ks, a ∈ m) → ks.length ≤ m.length
  | [], m, _, _ => Nat.zero_le _
  | a :: ks, m, nd, h => by
    rw [List.nodup_cons] at nd
    have h1 := nodup_len (l := l) ks (m.erase a) nd.2 fun b hb => (List.mem_erase_of_ne (fun e => nd.1 (by rw [← e]; exact hb))).mpr (h b (List.mem_cons_of_mem _ hb))
    have h2 := List.length_erase_of_mem (h a List.mem_cons_self)
    have h3 := List.length_pos_of_mem (h a List.mem_cons_self)
    rw [List.length_cons]
    omega
/-! ### dicts with int keys -/
def ent (f : Int → D) (r : Int) : D × D := (.int r, f r)
def dK (L : List Int) (f : Int → D) : D := .dict (L.map (ent f))
def up {α : Type} (f : Int → α) (k : Int) (v : α) : Int → α := fun i => if i = k then v else f i
theorem up_same {α : Type} (f : Int → α) (k : Int) (v : α) : up f k v k = v := if_pos rfl
theorem up_ne {α : Type} (f : Int → α) {k i : Int} (v : α) (h : i ≠ k) : up f k v i = f i := if_neg h
theorem kIs_ent (f : Int → D) (k r : Int) : kIs (.int k) (ent f r) = decide (r = k) := by
  unfold kIs ent
  simp [keyD]
theorem dAt_ent (f : Int → D) (k : Int) : ∀ L : List Int, dAt (L.map (ent f)) (.int k) = if k ∈ L then some (f k) else none
  | [] => rfl
  | a :: L => by
    have ih := dAt_ent f k L
    unfold dAt at ih ⊢
    rw [List.map_cons, List.find?_cons, kIs_ent]
    by_cases h : a = k
    · subst h
      simp [ent]
    · have h' : k ≠ a := fun z => h z.symm
      simp only [decide_eq_false h, List.mem_cons, h', false_or]
      exact ih
theorem any_ent (f : Int → D) (k : Int) (L : List Int) : (L.map (ent f)).any (kIs (.int k)) = decide (k ∈ L) := by
  rw [List.any_map, Bool.eq_iff_iff]
  simp only [List.any_eq_true, Function.comp, kIs_ent, decide_eq_true_eq]
  exact ⟨fun ⟨x, h, e⟩ => e ▸ h, fun h => ⟨k, h, rfl⟩⟩
theorem kok (k : Int) : keyOk (.int k) = true := rfl
theorem ix_dK {L : List Int} {f : Int → D} {r : Int} (h : r ∈ L) : ixD (dK L f) (.int r) = some (f r) := by
  show (if keyOk (.int r) = true then dAt (L.map (ent f)) (.int r) else none) = _
  rw [if_pos (kok r), dAt_ent, if_pos h]
theorem it_dK (L : List Int) (f : Int → D) : itD (dK L f) = some (L.map .int) := by
  show some ((L.map (ent f)).map (·.1)) = _
  rw [List.map_map]
  rfl
theorem in_dK (L : List Int) (f : Int → D) (r : Int) : inD2 (.int r) (dK L f) = some (.bool (decide (r ∈ L))) := by
  show (if keyOk (.int r) = true then some (PyData.bool ((L.map (ent f)).any (kIs (.int r)))) else none) = _
  rw [if_pos (kok r), any_ent]
theorem nin_dK (L : List Int) (f : Int → D) (r : Int) : ninD2 (.int r) (dK L f) = some (.bool (decide (r ∉ L))) := by
  show (if keyOk (.int r) = true then some (PyData.bool (!(L.map (ent f)).any (kIs (.int r)))) else none) = _
  rw [if_pos (kok r), any_ent]
  by_cases h : r ∈ L <;> simp [h]
theorem sorted_dK (L : List Int) (f : Int → D) : sortedD2 [dK L f] = some (iL (srtZ L)) := by
  have e : (L.map (ent f)).map (·.1) = L.map PyData.int := by rw [List.map_map]; rfl
  show (if srtOk ((L.map (ent f)).map (·.1)) = true then some (PyData.list (sortL ((L.map (ent f)).map (·.1)))) else none) = _
  rw [e, if_pos (srtOk_ints _), sortL_ints]
  rfl
theorem sorted_R (n : Nat) (f : Int → D) : sortedD2 [dK (R n) f] = some (iL (R n)) := by
  rw [sorted_dK, srtZ_eq (R_pw n) (List.Perm.refl _)]
theorem len_dK (L : List Int) (f : Int → D) : lenD [dK L f] = some (.int L.length) := by
  show some (PyData.int ((L.map (ent f)).length : Nat)) = _
  rw [List.length_map]
theorem ent_congr {L : List Int} {f g : Int → D} (h : ∀ i ∈ L, f i = g i) : L.map (ent f) = L.map (ent g) := List.map_congr_left fun i hi => by unfold ent; rw [h i hi]
theorem dK_congr {L : List Int} {f g : Int → D} (h : ∀ i ∈ L, f i = g i) : dK L f = dK L g := by unfold dK; rw [ent_congr h]
/-- d[k] = v -/
def pk (L : List Int) (k : Int) : List Int := if k ∈ L then L else L ++ [k]
theorem put_ent (L : List Int) (f : Int → D) (k : Int) (v : D) : dPut (L.map (ent f)) (.int k) v = (pk L k).map (ent (up f k v)) := by
  unfold dPut pk
  rw [any_ent]
  by_cases h : k ∈ L
  · rw [decide_eq_true h, if_pos rfl, if_pos h, List.map_map]
    refine List.map_congr_left fun i hi => ?_
    simp only [Function.comp, kIs_ent, decide_eq_true_eq]
    by_cases hk : i = k
    · subst hk; rw [if_pos rfl]; unfold ent; rw [up_same]
    · rw [if_neg hk]; unfold ent; rw [up_ne f v hk]
  · rw [decide_eq_false h, if_neg Bool.false_ne_true, if_neg h, List.map_append]
    congr 1
    · exact ent_congr fun i hi => (up_ne f v (fun e => h (by rw [← e]; exact hi))).symm
    · simp [ent, up_same]
theorem mem_pk {L : List Int} {k i : Int} : i ∈ pk L k ↔ i ∈ L ∨ i = k := by
  unfold pk
  split
  · rename_i h
    exact ⟨.inl, fun q => q.elim id fun e => e ▸ h⟩
  · simp
theorem pk_nodup {L : List Int} {k : Int} (h : L.Nodup) : (pk L k).Nodup := by
  unfold pk
  split
  · exact h
  · rename_i hk
    rw [List.nodup_append]
    exact ⟨h, by simp, fun a ha b hb e => hk (by rw [List.mem_singleton] at hb; rw [← hb, ← e]; exact ha)⟩
theorem setK_dK {i : Nat} {fv fk : XF} {env e1 : Ev} {v : D} {k : Int} {t0 t : Option Nat} {kvs0 : List (D × D)} {L : List Int} {f : Int → D} (h1 : fv env = .ok (v, e1)) (h2 : e1[i]? = some (.ow t0 (.dict kvs0))) (h3 : fk e1 = .ok (.int k, e1)) (h4 : e1[i]? = some (.ow t (dK L f))) (h6 : L.length ≤ 100000) :
    sSetK i fv fk env = .ok (.nx, e1.set i (.ow t (dK (pk L k) (up f k v)))) := by
  have := setK_ok h1 h2 h3 h4 (kok k) (by rw [List.length_map, sizeLine_eq]; omega)
  rw [this, put_ent]
  rfl
theorem drop_ent (L : List Int) (f : Int → D) (k : Int) : dDrop (L.map (ent f)) (.int k) = (L.filter fun i => decide (i ≠ k)).map (ent f) := by
  unfold dDrop
  rw [List.filter_map]
  congr 1
  refine List.filter_congr fun i _ => ?_
  simp only [Function.comp, kIs_ent]
  by_cases h : i = k <;> simp [h]
theorem slotC_fz {env : Ev} {i : Nat} {d : D} (h : env[i]? = some (.fz d)) : slotC env i = some d := by unfold slotC; rw [h]
theorem slotC_ow {env : Ev} {i : Nat} {t : Option Nat} {d : D} (h : env[i]? = some (.ow t d)) : slotC env i = some d := by unfold slotC; rw [h]
/-! ### pairs and triples -/
def prD (p : Int × Int) : D := tupI [p.1, p.2]
def trD (p : Int × Int × Int) : D := tupI [p.1, p.2.1, p.2.2]
theorem g2_ok {i j : Nat} {a b : Int} {env : Ev} : gT (glCons (gN i) (glCons (gN j) glNil)) (tupI [a, b]) env = some ((env.set i (.fz (.int a))).set j (.fz (.int b))) := rfl
theorem g3_ok {i j k : Nat} {a b c : Int} {env : Ev} : gT (glCons (gN i) (glCons (gN j) (glCons (gN k) glNil))) (tupI [a, b, c]) env = some (((env.set i (.fz (.int a))).set j (.fz (.int b))).set k (.fz (.int c))) := rfl
theorem cint {i : Int} {env : Ev} : xConst (.int i) env = .ok (.int i, env) := rfl
theorem xv {i : Nat} {d : D} {env : Ev} (h : env[i]? = some (.fz d)) : xVar i env = .ok (d, env) := xVar_fz h
theorem seqT {f g : SF} {env e1 : Ev} {q : Out (Fl × Ev)} (h : f env = .ok (.nx, e1)) (h2 : g e1 = q) : sSeq f g env = q := by rw [seq_nx h]; exact h2
theorem forT {it : IF} {g : GF} {b : SF} {env e1 : Ev} {xs : List D} {q : Out (Fl × Ev)} (h : it env = .ok (xs, e1)) (h2 : forL g b xs e1 = q) : sFor it g b env = q := by rw [for_ok h]; exact h2
theorem forC {g : GF} {b : SF} {x : D} {xs : List D} {env e1 e2 : Ev} {q : Out (Fl × Ev)} (h : g x env = some e1) (h2 : b e1 = .ok (.nx, e2)) (h3 : forL g b xs e2 = q) : forL g b (x :: xs) env = q := by
  conv => lhs; unfold forL
  rw [h]
  simp only [h2, Out.bind_ok]
  exact h3
end K00
set_option Elab.async false
set_option linter.all false
set_option maxRecDepth 100000
namespace K00
open PySem DP
/-- the draws -/
def Dr (ds : List Int) : Prop := ds.length ≤ 5000 ∧ ∀ d ∈ ds, 0 ≤ d ∧ d < 65536
theorem at_mod {ds : List Int} (h : 0 < ds.length) (k : Int) : ∃ d, d ∈ ds ∧ L2.atI (ds.map PyData.int) (k % (ds.length : Int)) = some (.int d) := by
  have h1 : 0 ≤ k % (ds.length : Int) := Int.emod_nonneg _ (by omega)
  have h2 : k % (ds.length : Int) < ds.length := Int.emod_lt_of_pos _ (by omega)
  have h3 : (k % (ds.length : Int)).toNat < ds.length := by omega
  refine ⟨ds[(k % (ds.length : Int)).toNat], List.getElem_mem h3, ?_⟩
  unfold L2.atI L2.ixN
  rw [List.length_map, if_pos h1, if_pos h2]
  simp [List.getElem?_eq_getElem h3]
theorem s64_c {i : Int} (h : -(2 ^ 64) < i) (h2 : i < 2 ^ 64) : s64 i = true := s64_iff.mpr ⟨h, h2⟩
theorem mix_ex {ds : List Int} (h : Dr ds) (k : Int) {m : Int} (hm : 0 < m) : ∃ v, F__law_mix [.list (ds.map .int), .int k, .int m] = .ok (.int v) ∧ 0 ≤ v ∧ v < m := by
  have a1 : s64 7919 = true := rfl
  have a2 : s64 104729 = true := rfl
  have fin : ∀ x : Int, ∃ v, Out.ok (PyData.int (x % m)) = Out.ok (PyData.int v) ∧ 0 ≤ v ∧ v < m := fun x => ⟨_, rfl, Int.emod_nonneg _ (by omega), Int.emod_lt_of_pos _ hm⟩
  unfold F__law_mix runB B__law_mix
  by_cases hl : 0 < ds.length
  · obtain ⟨d, _, hd⟩ := at_mod hl k
    have hl' : (0 : Int) < ds.length := by omega
    by_cases hk : k < ds.length
    · simp [hl, mod_int hl', hd, hk, mod_int hm]
      exact ⟨Int.emod_nonneg _ (by omega), Int.emod_lt_of_pos _ hm⟩
    · simp [hl, mod_int hl', hd, hk, mod_int hm, mul_r a1, mul_r a2, fdiv_int]
      exact ⟨Int.emod_nonneg _ (by omega), Int.emod_lt_of_pos _ hm⟩
  · have hk' : ds.length = 0 := by omega
    by_cases hk : k < ds.length
    · simp [hl, hk, mod_int hm]
      exact hm
    · simp [hl, hk, mod_int hm, mul_r a1, mul_r a2, fdiv_int]
      exact ⟨Int.emod_nonneg _ (by omega), Int.emod_lt_of_pos _ hm⟩
/-- the list that is drawn, after i numbers of the script -/
def Dw (n : Nat) (ds : List Int) : Prop := ds.length ≤ n ∧ ∀ d ∈ ds, 0 ≤ d ∧ d < 65536
theorem Dw.snoc {n : Nat} {ds : List Int} (h : Dw n ds) {d : Int} (h1 : 0 ≤ d) (h2 : d < 65536) : Dw (n + 1) (ds ++ [d]) := by
  refine ⟨by simp; exact h.1, fun x hx => ?_⟩
  rcases List.mem_append.mp hx with q | q
  · exact h.2 x q
  · rw [List.mem_singleton.mp q]; exact ⟨h1, h2⟩
theorem snoc_map (ds : List Int) (d : Int) : ds.map PyData.int ++ [PyData.int d] = (ds ++ [d]).map PyData.int := by simp
theorem draws_in (ns : List Int) (k r0 : Int) (h0 : 0 ≤ r0) (a0 b : Sl) (ds0 : List Int) (m : Nat) (hd : Dw m ds0) (hm : m ≤ 10000) :
    ∃ ds r a, forL (gN 4) Y1__law_draws (rngD 0 1 60) [.sc ns, .ow none (.list (ds0.map .int)), .fz (.int k), .fz (.int r0), a0, b] = .ok (.nx, [.sc ns, .ow none (.list (ds.map .int)), .fz (.int k), .fz (.int r), a, b]) ∧ Dw (m + 60) ds := by
  have step : ∀ (i : Nat) (x : D) (env : Ev), (rngD 0 1 60)[i]? = some x → (∃ ds r a, env = [.sc ns, .ow none (.list (ds.map .int)), .fz (.int k), .fz (.int r), a, b] ∧ 0 ≤ r ∧ Dw (m + (0 + i)) ds) →
      ∃ e1 e2, gN 4 x env = some e1 ∧ Y1__law_draws e1 = .ok (.nx, e2) ∧ ∃ ds r a, e2 = [.sc ns, .ow none (.list (ds.map .int)), .fz (.int k), .fz (.int r), a, b] ∧ 0 ≤ r ∧ Dw (m + (0 + i + 1)) ds := by
    rintro i x env hx ⟨ds, r, a, rfl, hr, hn⟩
    obtain ⟨hi, rfl⟩ := rngD_at hx
    rw [Nat.zero_add] at hn
    by_cases hp : 0 < r
    · have hl : (ds.map PyData.int).length < 16777216 := by rw [List.length_map]; have := hn.1; omega
      refine ⟨_, [.sc ns, .ow none (.list ((ds ++ [r % 65536]).map .int)), .fz (.int k), .fz (.int (r / 65536)), .fz (.int (0 + (i : Int) * 1)), b], rfl, ?_, ds ++ [r % 65536], r / 65536, _, rfl, by omega, by rw [Nat.zero_add]; exact hn.snoc (Int.emod_nonneg _ (by omega)) (Int.emod_lt_of_pos _ (by omega))⟩
      simp [Y1__law_draws, hp, mod_int, fdiv_int, app_small hl]
    · refine ⟨_, [.sc ns, .ow none (.list (ds.map .int)), .fz (.int k), .fz (.int r), .fz (.int (0 + (i : Int) * 1)), b], rfl, ?_, ds, r, _, rfl, hr, by rw [Nat.zero_add]; exact ⟨Nat.le_succ_of_le hn.1, hn.2⟩⟩
      simp [Y1__law_draws, hp]
  obtain ⟨e2, h1, ds, r, a', h3, h4, h5⟩ := for_inv (g := gN 4) (body := Y1__law_draws)
    (fun i env => ∃ ds r a, env = [.sc ns, .ow none (.list (ds.map .int)), .fz (.int k), .fz (.int r), a, b] ∧ 0 ≤ r ∧ Dw (m + i) ds) (rngD 0 1 60) 0 [.sc ns, .ow none (.list (ds0.map .int)), .fz (.int k), .fz (.int r0), a0, b] step ⟨ds0, r0, a0, rfl, h0, hd⟩
  rw [rngD_len, Nat.zero_add] at h5
  exact ⟨ds, r, a', by rw [h1, h3], h5⟩
theorem pow_10_18 : powD (.int 10) (.int 18) = some (.int 1000000000000000000) := by
  unfold powD
  simp
theorem draws_abs (ns : List Int) (i : Nat) (z y : Int) (a b c d : Sl) (hz : L2.atI ns (i : Int) = some z) (ha : absD [.int z] = some (.int y)) : sSet 3 (xn absD (aCons (xAtS 0 (xVar 2)) (aNil))) [.sc ns, a, .fz (.int i), b, c, d] = .ok (.nx, [.sc ns, a, .fz (.int i), .fz (.int y), c, d]) := by
  simp [hz, ha, -absD_i]
theorem draws_ask (y : Int) (t a b c d : Sl) {k : Bool} (hb : decide (1000000000000000000 ≤ y) = k) : tst (x2 geD (xVar 3) (x2 powD (xConst (.int 10)) (xConst (.int 18)))) [t, a, b, .fz (.int y), c, d] = .ok (k, [t, a, b, .fz (.int y), c, d]) := by
  simp [pow_10_18, hb]
theorem draws_big (ns : List Int) (i : Nat) (z y : Int) (b0 c0 d0 : Sl) (ds : List Int) (hz : L2.atI ns (i : Int) = some z) (ha : absD [.int z] = some (.int y)) (h0 : 0 ≤ y) (hb : 1000000000000000000 ≤ y) (hd : Dw (i * 60) ds) (hi : i < 63) :
    ∃ ds2 a b c d', Y2__law_draws [.sc ns, .ow none (.list (ds.map .int)), .fz (.int i), b0, c0, d0] = .ok (.nx, [.sc ns, .ow none (.list (ds2.map .int)), a, b, c, d']) ∧ Dw ((i + 1) * 60) ds2 := by
  obtain ⟨ds2, r2, a2, h5, h6⟩ := draws_in ns i y h0 c0 d0 ds (i * 60) hd (by omega)
  refine ⟨ds2, .fz (.int i), .fz (.int r2), a2, d0, ?_, by rw [show (i + 1) * 60 = i * 60 + 60 by omega]; exact h6⟩
  unfold Y2__law_draws
  rw [seq_nx (draws_abs ns i z y _ b0 c0 d0 hz ha), if_yes (draws_ask y _ _ _ c0 d0 (decide_eq_true hb))]
  unfold sFor iArgs
  rw [show ((aCons (xConst (.int 60)) aNil) [.sc ns, .ow none (.list (ds.map .int)), .fz (.int i), .fz (.int y), c0, d0]) = Out.ok ([.int 60], [.sc ns, .ow none (.list (ds.map .int)), .fz (.int i), .fz (.int y), c0, d0]) from rfl]
  simp only [Out.bind_ok]
  rw [show rng1 [.int 60] = some (rngD 0 1 60) from rfl]
  exact h5
theorem two_more {n : Nat} {ds : List Int} (h : Dw n ds) (x y : Int) (hx : 0 ≤ x ∧ x < 65536) (hy : 0 ≤ y ∧ y < 65536) : Dw (n + 60) (ds ++ [x] ++ [y]) := by
  have := (h.snoc hx.1 hx.2).snoc hy.1 hy.2
  exact ⟨Nat.le_trans this.1 (by omega), this.2⟩
theorem step1 (y i : Int) (a b c d : Sl)  : sSet 5 (x2 modD (xn intD (aCons (x2 addD (x2 mulD (xVar 3) (xConst (.int 48271))) (x2 mulD (x2 addD (xVar 2) (xConst (.int 1))) (xConst (.int 69621)))) (aNil))) (xConst (.int 2147483647))) [a, b, .fz (.int i), .fz (.int y), c, d] = .ok (.nx, [a, b, .fz (.int i), .fz (.int y), c, .fz (.int ((y * 48271 + (i + 1) * 69621) % 2147483647))]) := by
  have a1 : s64 48271 = true := rfl
  have a2 : s64 69621 = true := rfl
  simp [mod_int, mul_r a1, mul_r a2]
theorem step2 (y i : Int) (a b c d : Sl)  : sSet 5 (x2 modD (xn intD (aCons (x2 addD (x2 addD (x2 mulD (xVar 5) (xConst (.int 16807))) (x2 mulD (xConst (.int 11)) (xVar 2))) (xConst (.int 5))) (aNil))) (xConst (.int 2147483629))) [a, b, .fz (.int i), c, d, .fz (.int y)] = .ok (.nx, [a, b, .fz (.int i), c, d, .fz (.int ((y * 16807 + 11 * i + 5) % 2147483629))]) := by
  have a1 : s64 16807 = true := rfl
  have a2 : s64 11 = true := rfl
  simp [mod_int, mul_r a1, mul_l a2]
theorem step3 (y : Int) (ds : List Int) (a b c d : Sl) (hl : ds.length < 16777216) : sDrop (xMutL 1 opApp (aCons (x2 modD (xn intD (aCons (xVar 5) (aNil))) (xConst (.int 65536))) (aNil))) [a, .ow none (.list (ds.map .int)), b, c, d, .fz (.int y)] = .ok (.nx, [a, .ow none (.list ((ds ++ [y % 65536]).map .int)), b, c, d, .fz (.int y)]) := by
  have hl' : (ds.map PyData.int).length < 16777216 := by rw [List.length_map]; exact hl
  simp [mod_int, app_small hl']
theorem step4 (y : Int) (ds : List Int) (a b c d : Sl) (hl : ds.length < 16777216) : sDrop (xMutL 1 opApp (aCons (x2 modD (xn intD (aCons (x2 fdivD (xVar 5) (xConst (.int 65536))) (aNil))) (xConst (.int 32768))) (aNil))) [a, .ow none (.list (ds.map .int)), b, c, d, .fz (.int y)] = .ok (.nx, [a, .ow none (.list ((ds ++ [y / 65536 % 32768]).map .int)), b, c, d, .fz (.int y)]) := by
  have hl' : (ds.map PyData.int).length < 16777216 := by rw [List.length_map]; exact hl
  simp [mod_int, fdiv_int, app_small hl']
theorem draws_small (ns : List Int) (i : Nat) (z y : Int) (b0 c0 d0 : Sl) (ds : List Int) (hz : L2.atI ns (i : Int) = some z) (ha : absD [.int z] = some (.int y)) (h0 : 0 ≤ y) (hb : ¬ 1000000000000000000 ≤ y) (hd : Dw (i * 60) ds) (hi : i < 63) :
    ∃ ds2 a b c d', Y2__law_draws [.sc ns, .ow none (.list (ds.map .int)), .fz (.int i), b0, c0, d0] = .ok (.nx, [.sc ns, .ow none (.list (ds2.map .int)), a, b, c, d']) ∧ Dw ((i + 1) * 60) ds2 := by
  have hl : ds.length < 16777216 := by have := hd.1; omega
  have hl2 : ∀ v : Int, (ds ++ [v]).length < 16777216 := fun v => by rw [List.length_append, List.length_singleton]; have := hd.1; omega
  obtain ⟨v, hv⟩ : ∃ v, v = (y * 48271 + ((i : Int) + 1) * 69621) % 2147483647 := ⟨_, rfl⟩
  obtain ⟨u, hu⟩ : ∃ u, u = (v * 16807 + 11 * (i : Int) + 5) % 2147483629 := ⟨_, rfl⟩
  refine ⟨ds ++ [u % 65536] ++ [u / 65536 % 32768], .fz (.int i), .fz (.int y), c0, .fz (.int u), ?_, ?_⟩
  rotate_left
  · rw [show (i + 1) * 60 = i * 60 + 60 by omega]
    exact two_more hd _ _ ⟨Int.emod_nonneg _ (by decide), Int.emod_lt_of_pos _ (by decide)⟩ ⟨Int.emod_nonneg _ (by decide), Int.lt_of_lt_of_le (Int.emod_lt_of_pos _ (by decide)) (by decide)⟩
  · have s1 := step1 y i (.sc ns) (.ow none (.list (ds.map .int))) c0 d0
    rw [← hv] at s1
    have s2 := step2 v i (.sc ns) (.ow none (.list (ds.map .int))) (.fz (.int y)) c0
    rw [← hu] at s2
    unfold Y2__law_draws
    rw [seq_nx (draws_abs ns i z y _ b0 c0 d0 hz ha), if_no (draws_ask y _ _ _ c0 d0 (decide_eq_false hb)), seq_nx s1, seq_nx s2, seq_nx (step3 u ds _ _ _ _ hl), step4 u _ _ _ _ _ (hl2 _)]
theorem draws_ok {ns : List Int} (hn : ns.length ≤ 63) : ∃ ds, F__law_draws ns = .ok (.list (ds.map .int)) ∧ Dr ds := by
  have hx : (if (ns.length : Int) < 63 then (ns.length : Int) else 63) = ns.length := by split <;> omega
  have hr := rng1_ok (show (ns.length : Int) < 4611686018427387904 by omega) (by omega)
  have step : ∀ (i : Nat) (x : D) (env : Ev), (rngD 0 1 ns.length)[i]? = some x → (∃ ds a b c d, env = [.sc ns, .ow none (.list (ds.map .int)), a, b, c, d] ∧ Dw ((0 + i) * 60) ds) →
      ∃ e1 e2, gN 2 x env = some e1 ∧ Y2__law_draws e1 = .ok (.nx, e2) ∧ ∃ ds a b c d, e2 = [.sc ns, .ow none (.list (ds.map .int)), a, b, c, d] ∧ Dw ((0 + i + 1) * 60) ds := by
    rintro i x env hx ⟨ds, a, b, c, d, rfl, hd⟩
    rw [Nat.zero_add] at hd ⊢
    obtain ⟨hi, rfl⟩ := rngD_at hx
    have hz : L2.atI ns (i : Int) = some ns[i] := by
      unfold L2.atI L2.ixN
      rw [if_pos (by omega), if_pos (by omega)]
      simp [List.getElem?_eq_getElem hi]
    have ha : absD [.int ns[i]] = some (.int (if ns[i] < 0 then -ns[i] else ns[i])) := rfl
    have h0 : 0 ≤ (if ns[i] < 0 then -ns[i] else ns[i]) := by split <;> omega
    generalize (if ns[i] < 0 then -ns[i] else ns[i]) = y at ha h0
    generalize ns[i] = z at hz ha
    rw [show 0 + (i : Int) * 1 = i by omega]
    by_cases hb : 1000000000000000000 ≤ y
    · obtain ⟨ds2, a', b', c', d', h1, h2⟩ := draws_big ns i z y b c d ds hz ha h0 hb hd (by omega)
      exact ⟨_, _, rfl, h1, ds2, a', b', c', d', rfl, h2⟩
    · obtain ⟨ds2, a', b', c', d', h1, h2⟩ := draws_small ns i z y b c d ds hz ha h0 hb hd (by omega)
      exact ⟨_, _, rfl, h1, ds2, a', b', c', d', rfl, h2⟩
  obtain ⟨e2, h1, ds, a, b, c, d, h3, h4⟩ := for_inv (g := gN 2) (body := Y2__law_draws)
    (fun i env => ∃ ds a b c d, env = [.sc ns, .ow none (.list (ds.map .int)), a, b, c, d] ∧ Dw (i * 60) ds) (rngD 0 1 ns.length) 0 [.sc ns, .ow none (.list []), .no, .no, .no, .no] step ⟨[], _, _, _, _, rfl, by simp [Dw]⟩
  rw [rngD_len, Nat.zero_add] at h4
  refine ⟨ds, ?_, by have := h4.1; omega, h4.2⟩
  have l1 : (aCons (xn min2D (aCons (xConst (.int 63)) (aCons (xLenS 0) (aNil)))) (aNil)) [.sc ns, .ow none (.list []), .no, .no, .no, .no] = .ok ([.int ns.length], [.sc ns, .ow none (.list []), .no, .no, .no, .no]) := by simp [hx]
  have l2 := for_args (G := gN 2) (p := Y2__law_draws) l1 hr
  rw [Int.toNat_natCast, h1, h3] at l2
  have l3 : sOwn 1 (xLst aNil) [.sc ns, .no, .no, .no, .no, .no] = .ok (.nx, [.sc ns, .ow none (.list []), .no, .no, .no, .no]) := by simp
  refine runS_rt (e := [.sc ns, .fz (.list (ds.map .int)), a, b, c, d]) ?_
  show B__law_draws [.sc ns, .no, .no, .no, .no, .no] = _
  unfold B__law_draws
  rw [seq_nx l3, seq_nx l2]
  simp
end K00
set_option Elab.async false
set_option linter.all false
set_option maxRecDepth 100000
namespace K00
open PySem DP
def NM : List Str := ["OutOfRange", "TooMany", "BadPrefix", "BadTable", "BadFaults", "BadWay", "BadRouter", "BadLink", "BadCost", "BadEvent", "BadState", "BadNet", "BadPacket", "BadRule", "NoMessage", "BadTie", "BadOwner", "BadWish", "BadChange", "BadArea", "BadRange", "BadDomain", "BadHanding", "BadTeller", "BadLine", "BadDemand"]
theorem isE_ok {x y : Str} {m : D} (h : kn x = true) (hy : kn y = true) : xIsE (isT knL "NetError" y) (xVarE 0) [.xe (.tuple [.str x, m])] = .ok (.bool (x == y || y == "NetError"), [.xe (.tuple [.str x, m])]) := by
  have e : isT knL "NetError" y x = some (x == y || y == "NetError") := by
    unfold isT
    have h' : knT knL x = true := h
    have hy' : knT knL y = true := hy
    rw [h', hy']
    rfl
  show (match isT knL "NetError" y x with
    | some b => Out.ok (PyData.bool b, ([.xe (.tuple [.str x, m])] : Ev))
    | none => .bad) = _
  rw [e]
theorem kinds_ok {x : Str} (m : D) (h : kn x = true) : F__law_kinds (.tuple [.str x, m]) = some (.list (NM.map fun y => .bool (x == y || y == "NetError"))) := by
  have k : B__law_kinds [.xe (.tuple [.str x, m])] = .ok (.rt (.list (NM.map fun y => .bool (x == y || y == "NetError"))), [.xe (.tuple [.str x, m])]) := ret_ok (lst_ok (ds := NM.map fun y => .bool (x == y || y == "NetError")) (ac_ok (isE_ok h rfl) (ac_ok (isE_ok h rfl) (ac_ok (isE_ok h rfl) (ac_ok (isE_ok h rfl) (ac_ok (isE_ok h rfl) (ac_ok (isE_ok h rfl) (ac_ok (isE_ok h rfl) (ac_ok (isE_ok h rfl) (ac_ok (isE_ok h rfl) (ac_ok (isE_ok h rfl) (ac_ok (isE_ok h rfl) (ac_ok (isE_ok h rfl) (ac_ok (isE_ok h rfl) (ac_ok (isE_ok h rfl) (ac_ok (isE_ok h rfl) (ac_ok (isE_ok h rfl) (ac_ok (isE_ok h rfl) (ac_ok (isE_ok h rfl) (ac_ok (isE_ok h rfl) (ac_ok (isE_ok h rfl) (ac_ok (isE_ok h rfl) (ac_ok (isE_ok h rfl) (ac_ok (isE_ok h rfl) (ac_ok (isE_ok h rfl) (ac_ok (isE_ok h rfl) (a1_ok (isE_ok h rfl))))))))))))))))))))))))))) (by rw [List.length_map]; decide))
  unfold F__law_kinds runK
  show (match B__law_kinds [.xe (.tuple [.str x, m])] with
    | .ok (.rt r, _) => some r
    | _ => none) = _
  rw [k]
def item (n : Int) (k : Nat) : D := .tuple [.str (NM.getD k ""), .int (n + k)]
theorem made_ok (n : Int) : F__law_made [.int n] = .ok (.list ((List.range 26).map (item n))) := rfl
theorem f1 : ∀ k, k < 26 → isT knL "NetError" "NetError" (NM.getD k "") = some true := by decide +kernel
theorem f4 : ∀ k, k < 26 → kn (NM.getD k "") = true := by decide +kernel
theorem f2 {k : Nat} (hk : k < 26) : isV (NM.getD k "") = some true := by
  unfold isV
  rw [if_pos (f4 k hk)]
theorem f3 : ∀ k, k < 26 → (NM.map fun y => (NM.getD k "" == y || y == "NetError")) = (List.range 26).map fun t => t == k := by decide +kernel
theorem kinds_at (n : Int) {k : Nat} (hk : k < 26) : F__law_kinds (item n k) = some (.list ((List.range 26).map fun t => .bool (t == k))) := by
  unfold item
  rw [kinds_ok _ (f4 k hk)]
  have := congrArg (List.map PyData.bool) (f3 k hk)
  rw [List.map_map, List.map_map] at this
  exact congrArg (fun l => some (PyData.list l)) this
theorem rngR (n : Nat) : rngD 0 1 n = (R n).map .int := by
  unfold rngD R
  rw [List.map_map]
  refine List.map_congr_left fun i _ => ?_
  simp
theorem at_nat (l : List D) (k : Nat) (hk : k < l.length) : L2.atI l (k : Int) = l[k]? := by
  unfold L2.atI L2.ixN
  rw [if_pos (Int.natCast_nonneg k), if_pos (by exact_mod_cast hk)]
  simp
theorem ne_bools (l : List Bool) : neD2 (.list (l.map .bool)) (.list (l.map .bool)) = some (.bool false) := by
  show neD (.list (l.map .bool)) (.list (l.map .bool)) = _
  have h1 : ∀ x ∈ l.map PyData.bool, nc x = true := fun x hx => by
    obtain ⟨b, _, rfl⟩ := List.mem_map.mp hx
    rfl
  refine ne_nc (nc_list h1) ?_
  refine Nat.le_trans (depth_list (n := 0) fun x hx => ?_) (by decide)
  obtain ⟨b, _, rfl⟩ := List.mem_map.mp hx
  exact Nat.le_refl _
theorem eq_bools (l : List Bool) : eqD2 (.list (l.map .bool)) (.list (l.map .bool)) = some (.bool true) := by
  show eqD (.list (l.map .bool)) (.list (l.map .bool)) = _
  have h1 : ∀ x ∈ l.map PyData.bool, nc x = true := fun x hx => by
    obtain ⟨b, _, rfl⟩ := List.mem_map.mp hx
    rfl
  have h2 : (PyData.list (l.map .bool)).depth ≤ 60 := by
    refine Nat.le_trans (depth_list (n := 0) fun x hx => ?_) (by decide)
    obtain ⟨b, _, rfl⟩ := List.mem_map.mp hx
    exact Nat.le_refl _
  obtain ⟨a1, a2, a3, a4, a5⟩ := nc_show _ (nc_list h1)
  unfold eqD
  have : okD (PyData.list (l.map .bool)) (PyData.list (l.map .bool)) = true := by unfold okD; simp [h2]
  rw [a4, this, PySem.W.eqv_refl_alike _ a5]
  rfl
section
variable {ns ds : List Int}
abbrev EL (ns ds : List Int) (n : Int) (s4 s5 s6 s7 s8 : Sl) : Ev := [.sc ns, .fz (iL ds), .fz (.int n), .xe (.list ((List.range 26).map (item n))), s4, s5, s6, s7, s8]
theorem cmp_ok (n : Int) (s4 s5 s6 s7 : Sl) {el : XF} {k : Nat} (he : ∀ t : Nat, el (EL ns ds n s4 s5 s6 s7 (.fz (.int t))) = .ok (.bool (t == k), EL ns ds n s4 s5 s6 s7 (.fz (.int t)))) : xComp (iArgs rng1 (aCons (xLenE (xVarE 3)) (aNil))) (gN 8) (tTrue) el [8] (EL ns ds n s4 s5 s6 s7 .no) = .ok (.list ((List.range 26).map fun t => .bool (t == k)), EL ns ds n s4 s5 s6 s7 .no) := by
  have i1 : iArgs rng1 (aCons (xLenE (xVarE 3)) (aNil)) (EL ns ds n s4 s5 s6 s7 .no) = .ok ((List.range 26).map (fun t : Nat => PyData.int t), EL ns ds n s4 s5 s6 s7 .no) := by
    unfold iArgs
    rw [a1_ok (x := .int 26) (e1 := EL ns ds n s4 s5 s6 s7 .no) rfl]
    show liftO (rng1 [.int 26]) _ = _
    rw [rng1_ok (by decide) (by decide), show (26 : Int).toNat = 26 from rfl, rngR]
    show Out.ok (((List.range 26).map fun (i : Nat) => (i : Int)).map PyData.int, _) = _
    rw [List.map_map]
    rfl
  refine xcomp_ok i1 (e2 := EL ns ds n s4 s5 s6 s7 .no) ?_ (by rw [List.length_map, List.length_range]; decide)
  exact cmp_mapT (F := fun t : Nat => PyData.int t) (f := fun t => .bool (t == k)) (List.range 26) fun t _ => ⟨EL ns ds n s4 s5 s6 s7 (.fz (.int t)), rfl, he t, rfl⟩
theorem ix_item (n : Int) {k : Nat} (hk : k < 26) (s5 s6 s7 s8 : Sl) : xIxE (xVarE 3) (xVar 4) (EL ns ds n (.fz (.int k)) s5 s6 s7 s8) = .ok (item n k, EL ns ds n (.fz (.int k)) s5 s6 s7 s8) := by
  show (match L2.atI ((List.range 26).map (item n)) (k : Int) with
    | some d => Out.ok (d, EL ns ds n (.fz (.int k)) s5 s6 s7 s8)
    | none => .bad) = _
  rw [at_nat _ _ (by rw [List.length_map, List.length_range]; exact hk), List.getElem?_map, List.getElem?_range hk]
  rfl
theorem isX_ok {T : Str → Option Bool} {f : XF} {env : Ev} {c : Str} {m : D} {b : Bool} (h : f env = .ok (.tuple [.str c, m], env)) (e : T c = some b) : xIsE T f env = .ok (.bool b, env) := by
  unfold xIsE
  rw [h]
  show (match T c with
    | some b => Out.ok (PyData.bool b, env)
    | none => .bad) = _
  rw [e]
theorem at_ok' {f : XF} {env : Ev} {c : Str} {m : D} (h : f env = .ok (.tuple [.str c, m], env)) (e : kn c = true) : xAtE kn f env = .ok (m, env) := by
  unfold xAtE
  rw [h]
  show (if kn c = true then Out.ok (m, env) else .bad) = _
  rw [if_pos e]
theorem kk_ok {F : D → Option D} {f : XF} {env : Ev} {d r : D} (h : f env = .ok (d, env)) (e : F d = some r) : xCallK F f env = .ok (r, env) := by
  unfold xCallK
  rw [h]
  show (match F d with
    | some d => Out.ok (d, env)
    | none => .bad) = _
  rw [e]
theorem turn_ok (n : Int) {k : Nat} (hk : k < 26) (s5 s6 s7 : Sl) : Y2_law (EL ns ds n (.fz (.int k)) s5 s6 s7 .no) = .ok (.nx, EL ns ds n (.fz (.int k)) s5 s6 s7 .no) := by
  have hi := ix_item (ns := ns) (ds := ds) n hk s5 s6 s7 .no
  have ha : xAtE kn (xIxE (xVarE 3) (xVar 4)) (EL ns ds n (.fz (.int k)) s5 s6 s7 .no) = .ok (.int (n + k), EL ns ds n (.fz (.int k)) s5 s6 s7 .no) := at_ok' hi (f4 k hk)
  unfold Y2_law
  refine seqT (e1 := EL ns ds n (.fz (.int k)) s5 s6 s7 .no) (skip_ok ?_) (seqT (e1 := EL ns ds n (.fz (.int k)) s5 s6 s7 .no) (skip_ok ?_) (skip_ok ?_))
  · refine tor_ok (b := false) (c := false) (tnot_ok (b := true) (tst_ok (isX_ok hi (f1 k hk)))) fun _ => tor_ok (b := false) (c := false) (tnot_ok (b := true) (tst_ok (isX_ok hi (f2 hk)))) fun _ => tst_ok (x2_ok ha (x2_ok (x := .int n) (y := .int k) (xv rfl) (xv rfl) (add_int _ _)) ?_)
    rw [ne2_int, decide_eq_false (fun q => q rfl)]
  · have := cmp_ok (ns := ns) (ds := ds) n (.fz (.int k)) s5 s6 s7 (el := E1_law) (k := k) fun t => by
      unfold E1_law
      refine x2_ok (x := .int t) (y := .int k) (xv rfl) (xv rfl) ?_
      rw [eq2_int]
      congr 2
      rw [Bool.eq_iff_iff, decide_eq_true_eq, beq_iff_eq]
      omega
    refine tst_ok (x2_ok (kk_ok hi (kinds_at n hk)) this ?_)
    have := ne_bools ((List.range 26).map fun t => t == k)
    rw [List.map_map] at this
    exact this
  · have q1 : xIsI false (xAtE kn (xIxE (xVarE 3) (xVar 4))) (EL ns ds n (.fz (.int k)) s5 s6 s7 .no) = .ok (.bool false, EL ns ds n (.fz (.int k)) s5 s6 s7 .no) := by
      unfold xIsI
      rw [ha]
      rfl
    have q2 : xIsI true (xAtE kn (xIxE (xVarE 3) (xVar 4))) (EL ns ds n (.fz (.int k)) s5 s6 s7 .no) = .ok (.bool true, EL ns ds n (.fz (.int k)) s5 s6 s7 .no) := by
      unfold xIsI
      rw [ha]
      rfl
    exact tor_ok (b := false) (c := false) (tst_ok q1) fun _ => tnot_ok (b := true) (tst_ok q2)
theorem loop_ok (n : Int) (s5 s6 s7 : Sl) : ∀ (xs : List Nat) (s4 : Sl), (∀ k ∈ xs, k < 26) → ∃ t4, forL (gN 4) Y2_law (xs.map fun k : Nat => PyData.int k) (EL ns ds n s4 s5 s6 s7 .no) = .ok (.nx, EL ns ds n t4 s5 s6 s7 .no)
  | [], s4, _ => ⟨s4, rfl⟩
  | k :: xs, s4, h => by
    obtain ⟨t4, h2⟩ := loop_ok n s5 s6 s7 xs (.fz (.int k)) fun j hj => h j (List.mem_cons_of_mem _ hj)
    exact ⟨t4, forC (e1 := EL ns ds n (.fz (.int k)) s5 s6 s7 .no) rfl (turn_ok n (h k List.mem_cons_self) s5 s6 s7) h2⟩
theorem raised_ok {m : Int} (h : m = 0 ∨ m = 17 ∨ m = 99 ∨ m = -30) : F__law_raised [.int m] = .ok (.tuple [.str "OutOfRange", .int m]) := by
  rcases h with rfl | rfl | rfl | rfl <;> rfl
theorem good (ns : List Int) (hns : ns.length ≤ 63) : F_law ns = .ok (.bool true) := by
  obtain ⟨ds, hdr, hd⟩ := draws_ok hns
  obtain ⟨v, q1, b1⟩ := mix_ex hd 0 (m := 60000) (by decide)
  obtain ⟨j, q2, b2⟩ := mix_ex hd 1 (m := 4) (by decide)
  obtain ⟨n, hn⟩ : ∃ n : Int, n = v - 30000 := ⟨_, rfl⟩
  obtain ⟨m, hm, hix⟩ : ∃ m : Int, (m = 0 ∨ m = 17 ∨ m = 99 ∨ m = -30) ∧ ixD (.list [.int 0, .int 17, .int 99, .int (-30)]) (.int j) = some (.int m) := by
    have : j = 0 ∨ j = 1 ∨ j = 2 ∨ j = 3 := by omega
    rcases this with rfl | rfl | rfl | rfl
    · exact ⟨0, by simp, rfl⟩
    · exact ⟨17, by simp, rfl⟩
    · exact ⟨99, by simp, rfl⟩
    · exact ⟨-30, by simp, rfl⟩
  obtain ⟨t4, lp⟩ := loop_ok (ns := ns) (ds := ds) n .no .no .no (List.range 26) .no fun k hk => List.mem_range.mp hk
  have go : ∀ q, B_law [.sc ns, .no, .no, .no, .no, .no, .no, .no, .no] = .ok (.rt (.bool true), q) → F_law ns = .ok (.bool true) := fun q hq => by
    show runS 9 B_law ns = _
    unfold runS
    rw [show (Sl.sc ns :: List.replicate (9 - 1) Sl.no) = [.sc ns, .no, .no, .no, .no, .no, .no, .no, .no] from rfl, hq]
  refine go (EL ns ds n t4 (.xe (.tuple [.str "NetError", .int n])) (.fz (.int m)) (.xe (.tuple [.str "OutOfRange", .int m])) .no) ?_
  unfold B_law
  refine seqT (e1 := [.sc ns, .fz (iL ds), .no, .no, .no, .no, .no, .no, .no]) (set_ok (e1 := [.sc ns, .no, .no, .no, .no, .no, .no, .no, .no]) (by rw [xCallS_ap (ns := ns) rfl, hdr]; rfl)) ?_
  refine seqT (e1 := [.sc ns, .fz (iL ds), .fz (.int n), .no, .no, .no, .no, .no, .no]) (set_ok (e1 := [.sc ns, .fz (iL ds), .no, .no, .no, .no, .no, .no, .no]) (x2_ok (x := .int v) (y := .int 30000) (call_ok (a3_ok (xv rfl) cint cint) rfl q1) cint (by rw [hn]; rfl))) ?_
  refine seqT (e1 := EL ns ds n .no .no .no .no .no) ?_ ?_
  · unfold sSetE xCallY
    rw [a1_ok (xv (d := .int n) (env := [.sc ns, .fz (iL ds), .fz (.int n), .no, .no, .no, .no, .no, .no]) rfl)]
    simp only [Out.bind_ok, List.length_singleton, if_true, made_ok]
    rfl
  refine seqT (forT (xs := (List.range 26).map fun k : Nat => PyData.int k) (e1 := EL ns ds n .no .no .no .no .no) ?_ lp) ?_
  · unfold iArgs
    rw [a1_ok (x := .int 26) (e1 := EL ns ds n .no .no .no .no .no) rfl]
    show liftO (rng1 [.int 26]) _ = _
    rw [rng1_ok (by decide) (by decide), show (26 : Int).toNat = 26 from rfl, rngR]
    show Out.ok (((List.range 26).map fun (i : Nat) => (i : Int)).map PyData.int, _) = _
    rw [List.map_map]
    rfl
  refine seqT (e1 := EL ns ds n t4 (.xe (.tuple [.str "NetError", .int n])) .no .no .no) rfl ?_
  have hb : xVarE 5 (EL ns ds n t4 (.xe (.tuple [.str "NetError", .int n])) .no .no .no) = .ok (.tuple [.str "NetError", .int n], EL ns ds n t4 (.xe (.tuple [.str "NetError", .int n])) .no .no .no) := rfl
  refine seqT (e1 := EL ns ds n t4 (.xe (.tuple [.str "NetError", .int n])) .no .no .no) (skip_ok ?_) ?_
  · refine tor_ok (b := false) (c := false) (tst_ok (x2_ok (at_ok' hb (by decide +kernel)) (xv (d := .int n) rfl) ?_)) fun _ => tor_ok (b := false) (c := false) (tst_ok (x2_ok (x := .bool true) rfl (kk_ok hb (kinds_ok _ (by decide +kernel))) ?_)) fun _ => tnot_ok (b := true) (tst_ok (isX_ok hb (by decide +kernel)))
    · rw [ne2_int, decide_eq_false (fun q => q rfl)]
    · have e : (NM.map fun y => PyData.bool (("NetError" : Str) == y || y == "NetError")) = List.replicate 26 (.bool false) := by
        have : (NM.map fun y => (("NetError" : Str) == y || y == "NetError")) = List.replicate 26 false := by decide +kernel
        have := congrArg (List.map PyData.bool) this
        rw [List.map_map, List.map_replicate] at this
        exact this
      rw [e]
      rfl
  refine seqT (e1 := EL ns ds n t4 (.xe (.tuple [.str "NetError", .int n])) (.fz (.int m)) .no .no) (set_ok (e1 := EL ns ds n t4 (.xe (.tuple [.str "NetError", .int n])) .no .no .no) (x2_ok (x := .list [.int 0, .int 17, .int 99, .int (-30)]) (y := .int j) (lst_ok (a4_ok cint cint cint (x1_ok (x := .int 30) cint rfl)) (by decide)) (call_ok (a3_ok (xv rfl) cint cint) rfl q2) hix)) ?_
  refine seqT (e1 := EL ns ds n t4 (.xe (.tuple [.str "NetError", .int n])) (.fz (.int m)) (.xe (.tuple [.str "OutOfRange", .int m])) .no) ?_ ?_
  · unfold sSetE xCallY
    rw [a1_ok (xv (d := .int m) (env := EL ns ds n t4 (.xe (.tuple [.str "NetError", .int n])) (.fz (.int m)) .no .no) rfl)]
    simp only [Out.bind_ok, List.length_singleton, if_true, raised_ok hm]
    rfl
  have ht : xVarE 7 (EL ns ds n t4 (.xe (.tuple [.str "NetError", .int n])) (.fz (.int m)) (.xe (.tuple [.str "OutOfRange", .int m])) .no) = .ok (.tuple [.str "OutOfRange", .int m], EL ns ds n t4 (.xe (.tuple [.str "NetError", .int n])) (.fz (.int m)) (.xe (.tuple [.str "OutOfRange", .int m])) .no) := rfl
  have hk : F__law_kinds (.tuple [.str "OutOfRange", .int m]) = some (.list ((List.range 26).map fun t => .bool (t == 0))) := by
    have := kinds_at (m - 0) (k := 0) (by decide)
    unfold item at this
    rw [show (m - 0 + ((0 : Nat) : Int)) = m by omega] at this
    exact this
  have hc := cmp_ok (ns := ns) (ds := ds) n t4 (.xe (.tuple [.str "NetError", .int n])) (.fz (.int m)) (.xe (.tuple [.str "OutOfRange", .int m])) (el := E3_law) (k := 0) fun t => by
    unfold E3_law
    refine x2_ok (x := .int t) (y := .int 0) (xv rfl) cint ?_
    rw [eq2_int]
    congr 2
    rw [Bool.eq_iff_iff, decide_eq_true_eq, beq_iff_eq]
    omega
  refine ret_ok (bool_ok (tand_ok (b := true) (c := true) (tst_ok rfl) fun _ => tand_ok (b := true) (c := true) (tst_ok (x2_ok (at_ok' ht (by decide +kernel)) (xv (d := .int m) rfl) ?_)) fun _ => tst_ok (x2_ok (kk_ok ht hk) hc ?_)))
  · rw [eq2_int, decide_eq_true rfl]
  · have := eq_bools ((List.range 26).map fun t => t == 0)
    rw [List.map_map] at this
    exact this
end
end K00
set_option Elab.async false
set_option linter.all false
set_option maxRecDepth 100000
set_option maxHeartbeats 1000000
namespace K00
open PySem PySem.Spec PyProof.Rows L2 DP
theorem all_mk {l : PySem.W.OpenLaw} {w : World} {K : PySem.W.Frag} {h : Heap} {mg : Str → Option Value} {fa f0 f1 f2 f3 f4 f5 : Addr} (X : K.In h) (G : h.Ns mainGlobals mg) (hfa : mg "law" = some (.ref fa))
    {od0 an0 od1 an1 od2 an2 od3 an3 od4 an4 od5 an5 odI anI : Option Addr} {sl0 sl1 sl2 sl3 sl4 sl5 slI : Array (Option Value)} {oc0 kV0 dc0 pm0 cd0 ct0 oc1 kV1 dc1 pm1 cd1 ct1 oc2 kV2 dc2 pm2 cd2 ct2 oc3 kV3 dc3 pm3 cd3 ct3 oc4 kV4 dc4 pm4 cd4 ct4 oc5 kV5 dc5 pm5 cd5 ct5 ocI kVI dcI pmI cdI ctI : Value} {CF fI : Addr}
    {t_MOST_ROUTERS : Tok}
    {eF ecda ecc : Addr} {eoc ekV edc epm ect eccl ecl : Value} {eod ean ecdd ecld : Option Addr} {eosl eccs ecsl : Array (Option Value)} {evs : Array Value} {efile : Str} {etf : Tok} {ecdB : ClassData} {C_NetError C_OutOfRange C_TooMany C_BadPrefix C_BadTable C_BadFaults C_BadWay C_BadRouter C_BadLink C_BadCost C_BadEvent C_BadState C_BadNet C_BadPacket C_BadRule C_NoMessage C_BadTie C_BadOwner C_BadWish C_BadChange C_BadArea C_BadRange C_BadDomain C_BadHanding C_BadTeller C_BadLine C_BadDemand : Addr}
    {nm_NetError q_NetError : Str} {N_NetError : Addr} {bs_NetError sub_NetError : List Value} {sn_NetError : List Str} {ab_NetError : Bool} {col_NetError : Option Bool} {dd_NetError : Option Addr} {m0_NetError m1_NetError m2_NetError m3_NetError m5_NetError : Option Value}
    {nm_OutOfRange q_OutOfRange : Str} {N_OutOfRange : Addr} {bs_OutOfRange sub_OutOfRange : List Value} {sn_OutOfRange : List Str} {ab_OutOfRange : Bool} {col_OutOfRange : Option Bool} {dd_OutOfRange : Option Addr} {m0_OutOfRange m1_OutOfRange m2_OutOfRange m3_OutOfRange m5_OutOfRange : Option Value}
    {nm_TooMany q_TooMany : Str} {N_TooMany : Addr} {bs_TooMany sub_TooMany : List Value} {sn_TooMany : List Str} {ab_TooMany : Bool} {col_TooMany : Option Bool} {dd_TooMany : Option Addr} {m0_TooMany m1_TooMany m2_TooMany m3_TooMany m5_TooMany : Option Value}
    {nm_BadPrefix q_BadPrefix : Str} {N_BadPrefix : Addr} {bs_BadPrefix sub_BadPrefix : List Value} {sn_BadPrefix : List Str} {ab_BadPrefix : Bool} {col_BadPrefix : Option Bool} {dd_BadPrefix : Option Addr} {m0_BadPrefix m1_BadPrefix m2_BadPrefix m3_BadPrefix m5_BadPrefix : Option Value}
    {nm_BadTable q_BadTable : Str} {N_BadTable : Addr} {bs_BadTable sub_BadTable : List Value} {sn_BadTable : List Str} {ab_BadTable : Bool} {col_BadTable : Option Bool} {dd_BadTable : Option Addr} {m0_BadTable m1_BadTable m2_BadTable m3_BadTable m5_BadTable : Option Value}
    {nm_BadFaults q_BadFaults : Str} {N_BadFaults : Addr} {bs_BadFaults sub_BadFaults : List Value} {sn_BadFaults : List Str} {ab_BadFaults : Bool} {col_BadFaults : Option Bool} {dd_BadFaults : Option Addr} {m0_BadFaults m1_BadFaults m2_BadFaults m3_BadFaults m5_BadFaults : Option Value}
    {nm_BadWay q_BadWay : Str} {N_BadWay : Addr} {bs_BadWay sub_BadWay : List Value} {sn_BadWay : List Str} {ab_BadWay : Bool} {col_BadWay : Option Bool} {dd_BadWay : Option Addr} {m0_BadWay m1_BadWay m2_BadWay m3_BadWay m5_BadWay : Option Value}
    {nm_BadRouter q_BadRouter : Str} {N_BadRouter : Addr} {bs_BadRouter sub_BadRouter : List Value} {sn_BadRouter : List Str} {ab_BadRouter : Bool} {col_BadRouter : Option Bool} {dd_BadRouter : Option Addr} {m0_BadRouter m1_BadRouter m2_BadRouter m3_BadRouter m5_BadRouter : Option Value}
    {nm_BadLink q_BadLink : Str} {N_BadLink : Addr} {bs_BadLink sub_BadLink : List Value} {sn_BadLink : List Str} {ab_BadLink : Bool} {col_BadLink : Option Bool} {dd_BadLink : Option Addr} {m0_BadLink m1_BadLink m2_BadLink m3_BadLink m5_BadLink : Option Value}
    {nm_BadCost q_BadCost : Str} {N_BadCost : Addr} {bs_BadCost sub_BadCost : List Value} {sn_BadCost : List Str} {ab_BadCost : Bool} {col_BadCost : Option Bool} {dd_BadCost : Option Addr} {m0_BadCost m1_BadCost m2_BadCost m3_BadCost m5_BadCost : Option Value}
    {nm_BadEvent q_BadEvent : Str} {N_BadEvent : Addr} {bs_BadEvent sub_BadEvent : List Value} {sn_BadEvent : List Str} {ab_BadEvent : Bool} {col_BadEvent : Option Bool} {dd_BadEvent : Option Addr} {m0_BadEvent m1_BadEvent m2_BadEvent m3_BadEvent m5_BadEvent : Option Value}
    {nm_BadState q_BadState : Str} {N_BadState : Addr} {bs_BadState sub_BadState : List Value} {sn_BadState : List Str} {ab_BadState : Bool} {col_BadState : Option Bool} {dd_BadState : Option Addr} {m0_BadState m1_BadState m2_BadState m3_BadState m5_BadState : Option Value}
    {nm_BadNet q_BadNet : Str} {N_BadNet : Addr} {bs_BadNet sub_BadNet : List Value} {sn_BadNet : List Str} {ab_BadNet : Bool} {col_BadNet : Option Bool} {dd_BadNet : Option Addr} {m0_BadNet m1_BadNet m2_BadNet m3_BadNet m5_BadNet : Option Value}
    {nm_BadPacket q_BadPacket : Str} {N_BadPacket : Addr} {bs_BadPacket sub_BadPacket : List Value} {sn_BadPacket : List Str} {ab_BadPacket : Bool} {col_BadPacket : Option Bool} {dd_BadPacket : Option Addr} {m0_BadPacket m1_BadPacket m2_BadPacket m3_BadPacket m5_BadPacket : Option Value}
    {nm_BadRule q_BadRule : Str} {N_BadRule : Addr} {bs_BadRule sub_BadRule : List Value} {sn_BadRule : List Str} {ab_BadRule : Bool} {col_BadRule : Option Bool} {dd_BadRule : Option Addr} {m0_BadRule m1_BadRule m2_BadRule m3_BadRule m5_BadRule : Option Value}
    {nm_NoMessage q_NoMessage : Str} {N_NoMessage : Addr} {bs_NoMessage sub_NoMessage : List Value} {sn_NoMessage : List Str} {ab_NoMessage : Bool} {col_NoMessage : Option Bool} {dd_NoMessage : Option Addr} {m0_NoMessage m1_NoMessage m2_NoMessage m3_NoMessage m5_NoMessage : Option Value}
    {nm_BadTie q_BadTie : Str} {N_BadTie : Addr} {bs_BadTie sub_BadTie : List Value} {sn_BadTie : List Str} {ab_BadTie : Bool} {col_BadTie : Option Bool} {dd_BadTie : Option Addr} {m0_BadTie m1_BadTie m2_BadTie m3_BadTie m5_BadTie : Option Value}
    {nm_BadOwner q_BadOwner : Str} {N_BadOwner : Addr} {bs_BadOwner sub_BadOwner : List Value} {sn_BadOwner : List Str} {ab_BadOwner : Bool} {col_BadOwner : Option Bool} {dd_BadOwner : Option Addr} {m0_BadOwner m1_BadOwner m2_BadOwner m3_BadOwner m5_BadOwner : Option Value}
    {nm_BadWish q_BadWish : Str} {N_BadWish : Addr} {bs_BadWish sub_BadWish : List Value} {sn_BadWish : List Str} {ab_BadWish : Bool} {col_BadWish : Option Bool} {dd_BadWish : Option Addr} {m0_BadWish m1_BadWish m2_BadWish m3_BadWish m5_BadWish : Option Value}
    {nm_BadChange q_BadChange : Str} {N_BadChange : Addr} {bs_BadChange sub_BadChange : List Value} {sn_BadChange : List Str} {ab_BadChange : Bool} {col_BadChange : Option Bool} {dd_BadChange : Option Addr} {m0_BadChange m1_BadChange m2_BadChange m3_BadChange m5_BadChange : Option Value}
    {nm_BadArea q_BadArea : Str} {N_BadArea : Addr} {bs_BadArea sub_BadArea : List Value} {sn_BadArea : List Str} {ab_BadArea : Bool} {col_BadArea : Option Bool} {dd_BadArea : Option Addr} {m0_BadArea m1_BadArea m2_BadArea m3_BadArea m5_BadArea : Option Value}
    {nm_BadRange q_BadRange : Str} {N_BadRange : Addr} {bs_BadRange sub_BadRange : List Value} {sn_BadRange : List Str} {ab_BadRange : Bool} {col_BadRange : Option Bool} {dd_BadRange : Option Addr} {m0_BadRange m1_BadRange m2_BadRange m3_BadRange m5_BadRange : Option Value}
    {nm_BadDomain q_BadDomain : Str} {N_BadDomain : Addr} {bs_BadDomain sub_BadDomain : List Value} {sn_BadDomain : List Str} {ab_BadDomain : Bool} {col_BadDomain : Option Bool} {dd_BadDomain : Option Addr} {m0_BadDomain m1_BadDomain m2_BadDomain m3_BadDomain m5_BadDomain : Option Value}
    {nm_BadHanding q_BadHanding : Str} {N_BadHanding : Addr} {bs_BadHanding sub_BadHanding : List Value} {sn_BadHanding : List Str} {ab_BadHanding : Bool} {col_BadHanding : Option Bool} {dd_BadHanding : Option Addr} {m0_BadHanding m1_BadHanding m2_BadHanding m3_BadHanding m5_BadHanding : Option Value}
    {nm_BadTeller q_BadTeller : Str} {N_BadTeller : Addr} {bs_BadTeller sub_BadTeller : List Value} {sn_BadTeller : List Str} {ab_BadTeller : Bool} {col_BadTeller : Option Bool} {dd_BadTeller : Option Addr} {m0_BadTeller m1_BadTeller m2_BadTeller m3_BadTeller m5_BadTeller : Option Value}
    {nm_BadLine q_BadLine : Str} {N_BadLine : Addr} {bs_BadLine sub_BadLine : List Value} {sn_BadLine : List Str} {ab_BadLine : Bool} {col_BadLine : Option Bool} {dd_BadLine : Option Addr} {m0_BadLine m1_BadLine m2_BadLine m3_BadLine m5_BadLine : Option Value}
    {nm_BadDemand q_BadDemand : Str} {N_BadDemand : Addr} {bs_BadDemand sub_BadDemand : List Value} {sn_BadDemand : List Str} {ab_BadDemand : Bool} {col_BadDemand : Option Bool} {dd_BadDemand : Option Addr} {m0_BadDemand m1_BadDemand m2_BadDemand m3_BadDemand m5_BadDemand : Option Value}
    (a_NetError : PySem.W.nsIn K mainGlobals "NetError" = some (some (.ref C_NetError)))
    (a_OutOfRange : PySem.W.nsIn K mainGlobals "OutOfRange" = some (some (.ref C_OutOfRange)))
    (a_TooMany : PySem.W.nsIn K mainGlobals "TooMany" = some (some (.ref C_TooMany)))
    (a_BadPrefix : PySem.W.nsIn K mainGlobals "BadPrefix" = some (some (.ref C_BadPrefix)))
    (a_BadTable : PySem.W.nsIn K mainGlobals "BadTable" = some (some (.ref C_BadTable)))
    (a_BadFaults : PySem.W.nsIn K mainGlobals "BadFaults" = some (some (.ref C_BadFaults)))
    (a_BadWay : PySem.W.nsIn K mainGlobals "BadWay" = some (some (.ref C_BadWay)))
    (a_BadRouter : PySem.W.nsIn K mainGlobals "BadRouter" = some (some (.ref C_BadRouter)))
    (a_BadLink : PySem.W.nsIn K mainGlobals "BadLink" = some (some (.ref C_BadLink)))
    (a_BadCost : PySem.W.nsIn K mainGlobals "BadCost" = some (some (.ref C_BadCost)))
    (a_BadEvent : PySem.W.nsIn K mainGlobals "BadEvent" = some (some (.ref C_BadEvent)))
    (a_BadState : PySem.W.nsIn K mainGlobals "BadState" = some (some (.ref C_BadState)))
    (a_BadNet : PySem.W.nsIn K mainGlobals "BadNet" = some (some (.ref C_BadNet)))
    (a_BadPacket : PySem.W.nsIn K mainGlobals "BadPacket" = some (some (.ref C_BadPacket)))
    (a_BadRule : PySem.W.nsIn K mainGlobals "BadRule" = some (some (.ref C_BadRule)))
    (a_NoMessage : PySem.W.nsIn K mainGlobals "NoMessage" = some (some (.ref C_NoMessage)))
    (a_BadTie : PySem.W.nsIn K mainGlobals "BadTie" = some (some (.ref C_BadTie)))
    (a_BadOwner : PySem.W.nsIn K mainGlobals "BadOwner" = some (some (.ref C_BadOwner)))
    (a_BadWish : PySem.W.nsIn K mainGlobals "BadWish" = some (some (.ref C_BadWish)))
    (a_BadChange : PySem.W.nsIn K mainGlobals "BadChange" = some (some (.ref C_BadChange)))
    (a_BadArea : PySem.W.nsIn K mainGlobals "BadArea" = some (some (.ref C_BadArea)))
    (a_BadRange : PySem.W.nsIn K mainGlobals "BadRange" = some (some (.ref C_BadRange)))
    (a_BadDomain : PySem.W.nsIn K mainGlobals "BadDomain" = some (some (.ref C_BadDomain)))
    (a_BadHanding : PySem.W.nsIn K mainGlobals "BadHanding" = some (some (.ref C_BadHanding)))
    (a_BadTeller : PySem.W.nsIn K mainGlobals "BadTeller" = some (some (.ref C_BadTeller)))
    (a_BadLine : PySem.W.nsIn K mainGlobals "BadLine" = some (some (.ref C_BadLine)))
    (a_BadDemand : PySem.W.nsIn K mainGlobals "BadDemand" = some (some (.ref C_BadDemand)))
    (xL_NetError : K.lookup C_NetError = some (excClassObj nm_NetError q_NetError C_NetError N_NetError bs_NetError [.type "ValueError", .type "Exception", .type "BaseException", .type "object"] true sn_NetError sub_NetError ab_NetError col_NetError dd_NetError m0_NetError m1_NetError m2_NetError m3_NetError m5_NetError "ValueError.__new__"))
    (sa_NetError : PySem.W.findIn K (.ref C_NetError) "__setattr__" = some (some (.builtin "object.__setattr__")))
    (ga_NetError : PySem.W.findIn K (.ref C_NetError) "__getattribute__" = some (some (.builtin "BaseException.__getattribute__")))
    (gg_NetError : PySem.W.findIn K (.ref C_NetError) "__getattr__" = some none)
    (nb_NetError : PySem.W.findIn K (.ref C_NetError) "at" = some none)
    (iC_NetError : PySem.W.findIn K (.ref C_NetError) "__init__" = some (some (.ref eF)))
    (kC_NetError : PySem.W.keepIn K (.ref C_NetError) = true)
    (eC_NetError : PySem.W.subIn K (.ref C_NetError) (.type "BaseException") = some true)
    (vC_NetError : PySem.W.subIn K (.ref C_NetError) (.type "ValueError") = some true)
    (tC_NetError : PySem.W.typeIn K (.ref C_NetError) = some (.type "type"))
    (hC_NetError : PySem.W.hasDictIn K C_NetError = true)
    (mB_NetError : PySem.W.mroIn K C_NetError (.ref C_NetError) = some true)
    (su_NetError : PySem.W.ks_superIn K C_NetError C_NetError "__init__" = some (some (.builtin "ValueError.__init__")))
    (cl_NetError : PySem.W.findIn K (.ref C_NetError) "__class__" = some (some (.builtin "object.__class__")))
    (xL_OutOfRange : K.lookup C_OutOfRange = some (excClassObj nm_OutOfRange q_OutOfRange C_OutOfRange N_OutOfRange bs_OutOfRange [.ref C_NetError, .type "ValueError", .type "Exception", .type "BaseException", .type "object"] true sn_OutOfRange sub_OutOfRange ab_OutOfRange col_OutOfRange dd_OutOfRange m0_OutOfRange m1_OutOfRange m2_OutOfRange m3_OutOfRange m5_OutOfRange "ValueError.__new__"))
    (sa_OutOfRange : PySem.W.findIn K (.ref C_OutOfRange) "__setattr__" = some (some (.builtin "object.__setattr__")))
    (ga_OutOfRange : PySem.W.findIn K (.ref C_OutOfRange) "__getattribute__" = some (some (.builtin "BaseException.__getattribute__")))
    (gg_OutOfRange : PySem.W.findIn K (.ref C_OutOfRange) "__getattr__" = some none)
    (nb_OutOfRange : PySem.W.findIn K (.ref C_OutOfRange) "at" = some none)
    (iC_OutOfRange : PySem.W.findIn K (.ref C_OutOfRange) "__init__" = some (some (.ref eF)))
    (kC_OutOfRange : PySem.W.keepIn K (.ref C_OutOfRange) = true)
    (eC_OutOfRange : PySem.W.subIn K (.ref C_OutOfRange) (.type "BaseException") = some true)
    (vC_OutOfRange : PySem.W.subIn K (.ref C_OutOfRange) (.type "ValueError") = some true)
    (tC_OutOfRange : PySem.W.typeIn K (.ref C_OutOfRange) = some (.type "type"))
    (hC_OutOfRange : PySem.W.hasDictIn K C_OutOfRange = true)
    (mB_OutOfRange : PySem.W.mroIn K C_OutOfRange (.ref C_NetError) = some true)
    (su_OutOfRange : PySem.W.ks_superIn K C_OutOfRange C_NetError "__init__" = some (some (.builtin "ValueError.__init__")))
    (cl_OutOfRange : PySem.W.findIn K (.ref C_OutOfRange) "__class__" = some (some (.builtin "object.__class__")))
    (xL_TooMany : K.lookup C_TooMany = some (excClassObj nm_TooMany q_TooMany C_TooMany N_TooMany bs_TooMany [.ref C_NetError, .type "ValueError", .type "Exception", .type "BaseException", .type "object"] true sn_TooMany sub_TooMany ab_TooMany col_TooMany dd_TooMany m0_TooMany m1_TooMany m2_TooMany m3_TooMany m5_TooMany "ValueError.__new__"))
    (sa_TooMany : PySem.W.findIn K (.ref C_TooMany) "__setattr__" = some (some (.builtin "object.__setattr__")))
    (ga_TooMany : PySem.W.findIn K (.ref C_TooMany) "__getattribute__" = some (some (.builtin "BaseException.__getattribute__")))
    (gg_TooMany : PySem.W.findIn K (.ref C_TooMany) "__getattr__" = some none)
    (nb_TooMany : PySem.W.findIn K (.ref C_TooMany) "at" = some none)
    (iC_TooMany : PySem.W.findIn K (.ref C_TooMany) "__init__" = some (some (.ref eF)))
    (kC_TooMany : PySem.W.keepIn K (.ref C_TooMany) = true)
    (eC_TooMany : PySem.W.subIn K (.ref C_TooMany) (.type "BaseException") = some true)
    (vC_TooMany : PySem.W.subIn K (.ref C_TooMany) (.type "ValueError") = some true)
    (tC_TooMany : PySem.W.typeIn K (.ref C_TooMany) = some (.type "type"))
    (hC_TooMany : PySem.W.hasDictIn K C_TooMany = true)
    (mB_TooMany : PySem.W.mroIn K C_TooMany (.ref C_NetError) = some true)
    (su_TooMany : PySem.W.ks_superIn K C_TooMany C_NetError "__init__" = some (some (.builtin "ValueError.__init__")))
    (cl_TooMany : PySem.W.findIn K (.ref C_TooMany) "__class__" = some (some (.builtin "object.__class__")))
    (xL_BadPrefix : K.lookup C_BadPrefix = some (excClassObj nm_BadPrefix q_BadPrefix C_BadPrefix N_BadPrefix bs_BadPrefix [.ref C_NetError, .type "ValueError", .type "Exception", .type "BaseException", .type "object"] true sn_BadPrefix sub_BadPrefix ab_BadPrefix col_BadPrefix dd_BadPrefix m0_BadPrefix m1_BadPrefix m2_BadPrefix m3_BadPrefix m5_BadPrefix "ValueError.__new__"))
    (sa_BadPrefix : PySem.W.findIn K (.ref C_BadPrefix) "__setattr__" = some (some (.builtin "object.__setattr__")))
    (ga_BadPrefix : PySem.W.findIn K (.ref C_BadPrefix) "__getattribute__" = some (some (.builtin "BaseException.__getattribute__")))
    (gg_BadPrefix : PySem.W.findIn K (.ref C_BadPrefix) "__getattr__" = some none)
    (nb_BadPrefix : PySem.W.findIn K (.ref C_BadPrefix) "at" = some none)
    (iC_BadPrefix : PySem.W.findIn K (.ref C_BadPrefix) "__init__" = some (some (.ref eF)))
    (kC_BadPrefix : PySem.W.keepIn K (.ref C_BadPrefix) = true)
    (eC_BadPrefix : PySem.W.subIn K (.ref C_BadPrefix) (.type "BaseException") = some true)
    (vC_BadPrefix : PySem.W.subIn K (.ref C_BadPrefix) (.type "ValueError") = some true)
    (tC_BadPrefix : PySem.W.typeIn K (.ref C_BadPrefix) = some (.type "type"))
    (hC_BadPrefix : PySem.W.hasDictIn K C_BadPrefix = true)
    (mB_BadPrefix : PySem.W.mroIn K C_BadPrefix (.ref C_NetError) = some true)
    (su_BadPrefix : PySem.W.ks_superIn K C_BadPrefix C_NetError "__init__" = some (some (.builtin "ValueError.__init__")))
    (cl_BadPrefix : PySem.W.findIn K (.ref C_BadPrefix) "__class__" = some (some (.builtin "object.__class__")))
    (xL_BadTable : K.lookup C_BadTable = some (excClassObj nm_BadTable q_BadTable C_BadTable N_BadTable bs_BadTable [.ref C_NetError, .type "ValueError", .type "Exception", .type "BaseException", .type "object"] true sn_BadTable sub_BadTable ab_BadTable col_BadTable dd_BadTable m0_BadTable m1_BadTable m2_BadTable m3_BadTable m5_BadTable "ValueError.__new__"))
    (sa_BadTable : PySem.W.findIn K (.ref C_BadTable) "__setattr__" = some (some (.builtin "object.__setattr__")))
    (ga_BadTable : PySem.W.findIn K (.ref C_BadTable) "__getattribute__" = some (some (.builtin "BaseException.__getattribute__")))
    (gg_BadTable : PySem.W.findIn K (.ref C_BadTable) "__getattr__" = some none)
    (nb_BadTable : PySem.W.findIn K (.ref C_BadTable) "at" = some none)
    (iC_BadTable : PySem.W.findIn K (.ref C_BadTable) "__init__" = some (some (.ref eF)))
    (kC_BadTable : PySem.W.keepIn K (.ref C_BadTable) = true)
    (eC_BadTable : PySem.W.subIn K (.ref C_BadTable) (.type "BaseException") = some true)
    (vC_BadTable : PySem.W.subIn K (.ref C_BadTable) (.type "ValueError") = some true)
    (tC_BadTable : PySem.W.typeIn K (.ref C_BadTable) = some (.type "type"))
    (hC_BadTable : PySem.W.hasDictIn K C_BadTable = true)
    (mB_BadTable : PySem.W.mroIn K C_BadTable (.ref C_NetError) = some true)
    (su_BadTable : PySem.W.ks_superIn K C_BadTable C_NetError "__init__" = some (some (.builtin "ValueError.__init__")))
    (cl_BadTable : PySem.W.findIn K (.ref C_BadTable) "__class__" = some (some (.builtin "object.__class__")))
    (xL_BadFaults : K.lookup C_BadFaults = some (excClassObj nm_BadFaults q_BadFaults C_BadFaults N_BadFaults bs_BadFaults [.ref C_NetError, .type "ValueError", .type "Exception", .type "BaseException", .type "object"] true sn_BadFaults sub_BadFaults ab_BadFaults col_BadFaults dd_BadFaults m0_BadFaults m1_BadFaults m2_BadFaults m3_BadFaults m5_BadFaults "ValueError.__new__"))
    (sa_BadFaults : PySem.W.findIn K (.ref C_BadFaults) "__setattr__" = some (some (.builtin "object.__setattr__")))
    (ga_BadFaults : PySem.W.findIn K (.ref C_BadFaults) "__getattribute__" = some (some (.builtin "BaseException.__getattribute__")))
    (gg_BadFaults : PySem.W.findIn K (.ref C_BadFaults) "__getattr__" = some none)
    (nb_BadFaults : PySem.W.findIn K (.ref C_BadFaults) "at" = some none)
    (iC_BadFaults : PySem.W.findIn K (.ref C_BadFaults) "__init__" = some (some (.ref eF)))
    (kC_BadFaults : PySem.W.keepIn K (.ref C_BadFaults) = true)
    (eC_BadFaults : PySem.W.subIn K (.ref C_BadFaults) (.type "BaseException") = some true)
    (vC_BadFaults : PySem.W.subIn K (.ref C_BadFaults) (.type "ValueError") = some true)
    (tC_BadFaults : PySem.W.typeIn K (.ref C_BadFaults) = some (.type "type"))
    (hC_BadFaults : PySem.W.hasDictIn K C_BadFaults = true)
    (mB_BadFaults : PySem.W.mroIn K C_BadFaults (.ref C_NetError) = some true)
    (su_BadFaults : PySem.W.ks_superIn K C_BadFaults C_NetError "__init__" = some (some (.builtin "ValueError.__init__")))
    (cl_BadFaults : PySem.W.findIn K (.ref C_BadFaults) "__class__" = some (some (.builtin "object.__class__")))
    (xL_BadWay : K.lookup C_BadWay = some (excClassObj nm_BadWay q_BadWay C_BadWay N_BadWay bs_BadWay [.ref C_NetError, .type "ValueError", .type "Exception", .type "BaseException", .type "object"] true sn_BadWay sub_BadWay ab_BadWay col_BadWay dd_BadWay m0_BadWay m1_BadWay m2_BadWay m3_BadWay m5_BadWay "ValueError.__new__"))
    (sa_BadWay : PySem.W.findIn K (.ref C_BadWay) "__setattr__" = some (some (.builtin "object.__setattr__")))
    (ga_BadWay : PySem.W.findIn K (.ref C_BadWay) "__getattribute__" = some (some (.builtin "BaseException.__getattribute__")))
    (gg_BadWay : PySem.W.findIn K (.ref C_BadWay) "__getattr__" = some none)
    (nb_BadWay : PySem.W.findIn K (.ref C_BadWay) "at" = some none)
    (iC_BadWay : PySem.W.findIn K (.ref C_BadWay) "__init__" = some (some (.ref eF)))
    (kC_BadWay : PySem.W.keepIn K (.ref C_BadWay) = true)
    (eC_BadWay : PySem.W.subIn K (.ref C_BadWay) (.type "BaseException") = some true)
    (vC_BadWay : PySem.W.subIn K (.ref C_BadWay) (.type "ValueError") = some true)
    (tC_BadWay : PySem.W.typeIn K (.ref C_BadWay) = some (.type "type"))
    (hC_BadWay : PySem.W.hasDictIn K C_BadWay = true)
    (mB_BadWay : PySem.W.mroIn K C_BadWay (.ref C_NetError) = some true)
    (su_BadWay : PySem.W.ks_superIn K C_BadWay C_NetError "__init__" = some (some (.builtin "ValueError.__init__")))
    (cl_BadWay : PySem.W.findIn K (.ref C_BadWay) "__class__" = some (some (.builtin "object.__class__")))
    (xL_BadRouter : K.lookup C_BadRouter = some (excClassObj nm_BadRouter q_BadRouter C_BadRouter N_BadRouter bs_BadRouter [.ref C_NetError, .type "ValueError", .type "Exception", .type "BaseException", .type "object"] true sn_BadRouter sub_BadRouter ab_BadRouter col_BadRouter dd_BadRouter m0_BadRouter m1_BadRouter m2_BadRouter m3_BadRouter m5_BadRouter "ValueError.__new__"))
    (sa_BadRouter : PySem.W.findIn K (.ref C_BadRouter) "__setattr__" = some (some (.builtin "object.__setattr__")))
    (ga_BadRouter : PySem.W.findIn K (.ref C_BadRouter) "__getattribute__" = some (some (.builtin "BaseException.__getattribute__")))
    (gg_BadRouter : PySem.W.findIn K (.ref C_BadRouter) "__getattr__" = some none)
    (nb_BadRouter : PySem.W.findIn K (.ref C_BadRouter) "at" = some none)
    (iC_BadRouter : PySem.W.findIn K (.ref C_BadRouter) "__init__" = some (some (.ref eF)))
    (kC_BadRouter : PySem.W.keepIn K (.ref C_BadRouter) = true)
    (eC_BadRouter : PySem.W.subIn K (.ref C_BadRouter) (.type "BaseException") = some true)
    (vC_BadRouter : PySem.W.subIn K (.ref C_BadRouter) (.type "ValueError") = some true)
    (tC_BadRouter : PySem.W.typeIn K (.ref C_BadRouter) = some (.type "type"))
    (hC_BadRouter : PySem.W.hasDictIn K C_BadRouter = true)
    (mB_BadRouter : PySem.W.mroIn K C_BadRouter (.ref C_NetError) = some true)
    (su_BadRouter : PySem.W.ks_superIn K C_BadRouter C_NetError "__init__" = some (some (.builtin "ValueError.__init__")))
    (cl_BadRouter : PySem.W.findIn K (.ref C_BadRouter) "__class__" = some (some (.builtin "object.__class__")))
    (xL_BadLink : K.lookup C_BadLink = some (excClassObj nm_BadLink q_BadLink C_BadLink N_BadLink bs_BadLink [.ref C_NetError, .type "ValueError", .type "Exception", .type "BaseException", .type "object"] true sn_BadLink sub_BadLink ab_BadLink col_BadLink dd_BadLink m0_BadLink m1_BadLink m2_BadLink m3_BadLink m5_BadLink "ValueError.__new__"))
    (sa_BadLink : PySem.W.findIn K (.ref C_BadLink) "__setattr__" = some (some (.builtin "object.__setattr__")))
    (ga_BadLink : PySem.W.findIn K (.ref C_BadLink) "__getattribute__" = some (some (.builtin "BaseException.__getattribute__")))
    (gg_BadLink : PySem.W.findIn K (.ref C_BadLink) "__getattr__" = some none)
    (nb_BadLink : PySem.W.findIn K (.ref C_BadLink) "at" = some none)
    (iC_BadLink : PySem.W.findIn K (.ref C_BadLink) "__init__" = some (some (.ref eF)))
    (kC_BadLink : PySem.W.keepIn K (.ref C_BadLink) = true)
    (eC_BadLink : PySem.W.subIn K (.ref C_BadLink) (.type "BaseException") = some true)
    (vC_BadLink : PySem.W.subIn K (.ref C_BadLink) (.type "ValueError") = some true)
    (tC_BadLink : PySem.W.typeIn K (.ref C_BadLink) = some (.type "type"))
    (hC_BadLink : PySem.W.hasDictIn K C_BadLink = true)
    (mB_BadLink : PySem.W.mroIn K C_BadLink (.ref C_NetError) = some true)
    (su_BadLink : PySem.W.ks_superIn K C_BadLink C_NetError "__init__" = some (some (.builtin "ValueError.__init__")))
    (cl_BadLink : PySem.W.findIn K (.ref C_BadLink) "__class__" = some (some (.builtin "object.__class__")))
    (xL_BadCost : K.lookup C_BadCost = some (excClassObj nm_BadCost q_BadCost C_BadCost N_BadCost bs_BadCost [.ref C_NetError, .type "ValueError", .type "Exception", .type "BaseException", .type "object"] true sn_BadCost sub_BadCost ab_BadCost col_BadCost dd_BadCost m0_BadCost m1_BadCost m2_BadCost m3_BadCost m5_BadCost "ValueError.__new__"))
    (sa_BadCost : PySem.W.findIn K (.ref C_BadCost) "__setattr__" = some (some (.builtin "object.__setattr__")))
    (ga_BadCost : PySem.W.findIn K (.ref C_BadCost) "__getattribute__" = some (some (.builtin "BaseException.__getattribute__")))
    (gg_BadCost : PySem.W.findIn K (.ref C_BadCost) "__getattr__" = some none)
    (nb_BadCost : PySem.W.findIn K (.ref C_BadCost) "at" = some none)
    (iC_BadCost : PySem.W.findIn K (.ref C_BadCost) "__init__" = some (some (.ref eF)))
    (kC_BadCost : PySem.W.keepIn K (.ref C_BadCost) = true)
    (eC_BadCost : PySem.W.subIn K (.ref C_BadCost) (.type "BaseException") = some true)
    (vC_BadCost : PySem.W.subIn K (.ref C_BadCost) (.type "ValueError") = some true)
    (tC_BadCost : PySem.W.typeIn K (.ref C_BadCost) = some (.type "type"))
    (hC_BadCost : PySem.W.hasDictIn K C_BadCost = true)
    (mB_BadCost : PySem.W.mroIn K C_BadCost (.ref C_NetError) = some true)
    (su_BadCost : PySem.W.ks_superIn K C_BadCost C_NetError "__init__" = some (some (.builtin "ValueError.__init__")))
    (cl_BadCost : PySem.W.findIn K (.ref C_BadCost) "__class__" = some (some (.builtin "object.__class__")))
    (xL_BadEvent : K.lookup C_BadEvent = some (excClassObj nm_BadEvent q_BadEvent C_BadEvent N_BadEvent bs_BadEvent [.ref C_NetError, .type "ValueError", .type "Exception", .type "BaseException", .type "object"] true sn_BadEvent sub_BadEvent ab_BadEvent col_BadEvent dd_BadEvent m0_BadEvent m1_BadEvent m2_BadEvent m3_BadEvent m5_BadEvent "ValueError.__new__"))
    (sa_BadEvent : PySem.W.findIn K (.ref C_BadEvent) "__setattr__" = some (some (.builtin "object.__setattr__")))
    (ga_BadEvent : PySem.W.findIn K (.ref C_BadEvent) "__getattribute__" = some (some (.builtin "BaseException.__getattribute__")))
    (gg_BadEvent : PySem.W.findIn K (.ref C_BadEvent) "__getattr__" = some none)
    (nb_BadEvent : PySem.W.findIn K (.ref C_BadEvent) "at" = some none)
    (iC_BadEvent : PySem.W.findIn K (.ref C_BadEvent) "__init__" = some (some (.ref eF)))
    (kC_BadEvent : PySem.W.keepIn K (.ref C_BadEvent) = true)
    (eC_BadEvent : PySem.W.subIn K (.ref C_BadEvent) (.type "BaseException") = some true)
    (vC_BadEvent : PySem.W.subIn K (.ref C_BadEvent) (.type "ValueError") = some true)
    (tC_BadEvent : PySem.W.typeIn K (.ref C_BadEvent) = some (.type "type"))
    (hC_BadEvent : PySem.W.hasDictIn K C_BadEvent = true)
    (mB_BadEvent : PySem.W.mroIn K C_BadEvent (.ref C_NetError) = some true)
    (su_BadEvent : PySem.W.ks_superIn K C_BadEvent C_NetError "__init__" = some (some (.builtin "ValueError.__init__")))
    (cl_BadEvent : PySem.W.findIn K (.ref C_BadEvent) "__class__" = some (some (.builtin "object.__class__")))
    (xL_BadState : K.lookup C_BadState = some (excClassObj nm_BadState q_BadState C_BadState N_BadState bs_BadState [.ref C_NetError, .type "ValueError", .type "Exception", .type "BaseException", .type "object"] true sn_BadState sub_BadState ab_BadState col_BadState dd_BadState m0_BadState m1_BadState m2_BadState m3_BadState m5_BadState "ValueError.__new__"))
    (sa_BadState : PySem.W.findIn K (.ref C_BadState) "__setattr__" = some (some (.builtin "object.__setattr__")))
    (ga_BadState : PySem.W.findIn K (.ref C_BadState) "__getattribute__" = some (some (.builtin "BaseException.__getattribute__")))
    (gg_BadState : PySem.W.findIn K (.ref C_BadState) "__getattr__" = some none)
    (nb_BadState : PySem.W.findIn K (.ref C_BadState) "at" = some none)
    (iC_BadState : PySem.W.findIn K (.ref C_BadState) "__init__" = some (some (.ref eF)))
    (kC_BadState : PySem.W.keepIn K (.ref C_BadState) = true)
    (eC_BadState : PySem.W.subIn K (.ref C_BadState) (.type "BaseException") = some true)
    (vC_BadState : PySem.W.subIn K (.ref C_BadState) (.type "ValueError") = some true)
    (tC_BadState : PySem.W.typeIn K (.ref C_BadState) = some (.type "type"))
    (hC_BadState : PySem.W.hasDictIn K C_BadState = true)
    (mB_BadState : PySem.W.mroIn K C_BadState (.ref C_NetError) = some true)
    (su_BadState : PySem.W.ks_superIn K C_BadState C_NetError "__init__" = some (some (.builtin "ValueError.__init__")))
    (cl_BadState : PySem.W.findIn K (.ref C_BadState) "__class__" = some (some (.builtin "object.__class__")))
    (xL_BadNet : K.lookup C_BadNet = some (excClassObj nm_BadNet q_BadNet C_BadNet N_BadNet bs_BadNet [.ref C_NetError, .type "ValueError", .type "Exception", .type "BaseException", .type "object"] true sn_BadNet sub_BadNet ab_BadNet col_BadNet dd_BadNet m0_BadNet m1_BadNet m2_BadNet m3_BadNet m5_BadNet "ValueError.__new__"))
    (sa_BadNet : PySem.W.findIn K (.ref C_BadNet) "__setattr__" = some (some (.builtin "object.__setattr__")))
    (ga_BadNet : PySem.W.findIn K (.ref C_BadNet) "__getattribute__" = some (some (.builtin "BaseException.__getattribute__")))
    (gg_BadNet : PySem.W.findIn K (.ref C_BadNet) "__getattr__" = some none)
    (nb_BadNet : PySem.W.findIn K (.ref C_BadNet) "at" = some none)
    (iC_BadNet : PySem.W.findIn K (.ref C_BadNet) "__init__" = some (some (.ref eF)))
    (kC_BadNet : PySem.W.keepIn K (.ref C_BadNet) = true)
    (eC_BadNet : PySem.W.subIn K (.ref C_BadNet) (.type "BaseException") = some true)
    (vC_BadNet : PySem.W.subIn K (.ref C_BadNet) (.type "ValueError") = some true)
    (tC_BadNet : PySem.W.typeIn K (.ref C_BadNet) = some (.type "type"))
    (hC_BadNet : PySem.W.hasDictIn K C_BadNet = true)
    (mB_BadNet : PySem.W.mroIn K C_BadNet (.ref C_NetError) = some true)
    (su_BadNet : PySem.W.ks_superIn K C_BadNet C_NetError "__init__" = some (some (.builtin "ValueError.__init__")))
    (cl_BadNet : PySem.W.findIn K (.ref C_BadNet) "__class__" = some (some (.builtin "object.__class__")))
    (xL_BadPacket : K.lookup C_BadPacket = some (excClassObj nm_BadPacket q_BadPacket C_BadPacket N_BadPacket bs_BadPacket [.ref C_NetError, .type "ValueError", .type "Exception", .type "BaseException", .type "object"] true sn_BadPacket sub_BadPacket ab_BadPacket col_BadPacket dd_BadPacket m0_BadPacket m1_BadPacket m2_BadPacket m3_BadPacket m5_BadPacket "ValueError.__new__"))
    (sa_BadPacket : PySem.W.findIn K (.ref C_BadPacket) "__setattr__" = some (some (.builtin "object.__setattr__")))
    (ga_BadPacket : PySem.W.findIn K (.ref C_BadPacket) "__getattribute__" = some (some (.builtin "BaseException.__getattribute__")))
    (gg_BadPacket : PySem.W.findIn K (.ref C_BadPacket) "__getattr__" = some none)
    (nb_BadPacket : PySem.W.findIn K (.ref C_BadPacket) "at" = some none)
    (iC_BadPacket : PySem.W.findIn K (.ref C_BadPacket) "__init__" = some (some (.ref eF)))
    (kC_BadPacket : PySem.W.keepIn K (.ref C_BadPacket) = true)
    (eC_BadPacket : PySem.W.subIn K (.ref C_BadPacket) (.type "BaseException") = some true)
    (vC_BadPacket : PySem.W.subIn K (.ref C_BadPacket) (.type "ValueError") = some true)
    (tC_BadPacket : PySem.W.typeIn K (.ref C_BadPacket) = some (.type "type"))
    (hC_BadPacket : PySem.W.hasDictIn K C_BadPacket = true)
    (mB_BadPacket : PySem.W.mroIn K C_BadPacket (.ref C_NetError) = some true)
    (su_BadPacket : PySem.W.ks_superIn K C_BadPacket C_NetError "__init__" = some (some (.builtin "ValueError.__init__")))
    (cl_BadPacket : PySem.W.findIn K (.ref C_BadPacket) "__class__" = some (some (.builtin "object.__class__")))
    (xL_BadRule : K.lookup C_BadRule = some (excClassObj nm_BadRule q_BadRule C_BadRule N_BadRule bs_BadRule [.ref C_NetError, .type "ValueError", .type "Exception", .type "BaseException", .type "object"] true sn_BadRule sub_BadRule ab_BadRule col_BadRule dd_BadRule m0_BadRule m1_BadRule m2_BadRule m3_BadRule m5_BadRule "ValueError.__new__"))
    (sa_BadRule : PySem.W.findIn K (.ref C_BadRule) "__setattr__" = some (some (.builtin "object.__setattr__")))
    (ga_BadRule : PySem.W.findIn K (.ref C_BadRule) "__getattribute__" = some (some (.builtin "BaseException.__getattribute__")))
    (gg_BadRule : PySem.W.findIn K (.ref C_BadRule) "__getattr__" = some none)
    (nb_BadRule : PySem.W.findIn K (.ref C_BadRule) "at" = some none)
    (iC_BadRule : PySem.W.findIn K (.ref C_BadRule) "__init__" = some (some (.ref eF)))
    (kC_BadRule : PySem.W.keepIn K (.ref C_BadRule) = true)
    (eC_BadRule : PySem.W.subIn K (.ref C_BadRule) (.type "BaseException") = some true)
    (vC_BadRule : PySem.W.subIn K (.ref C_BadRule) (.type "ValueError") = some true)
    (tC_BadRule : PySem.W.typeIn K (.ref C_BadRule) = some (.type "type"))
    (hC_BadRule : PySem.W.hasDictIn K C_BadRule = true)
    (mB_BadRule : PySem.W.mroIn K C_BadRule (.ref C_NetError) = some true)
    (su_BadRule : PySem.W.ks_superIn K C_BadRule C_NetError "__init__" = some (some (.builtin "ValueError.__init__")))
    (cl_BadRule : PySem.W.findIn K (.ref C_BadRule) "__class__" = some (some (.builtin "object.__class__")))
    (xL_NoMessage : K.lookup C_NoMessage = some (excClassObj nm_NoMessage q_NoMessage C_NoMessage N_NoMessage bs_NoMessage [.ref C_NetError, .type "ValueError", .type "Exception", .type "BaseException", .type "object"] true sn_NoMessage sub_NoMessage ab_NoMessage col_NoMessage dd_NoMessage m0_NoMessage m1_NoMessage m2_NoMessage m3_NoMessage m5_NoMessage "ValueError.__new__"))
    (sa_NoMessage : PySem.W.findIn K (.ref C_NoMessage) "__setattr__" = some (some (.builtin "object.__setattr__")))
    (ga_NoMessage : PySem.W.findIn K (.ref C_NoMessage) "__getattribute__" = some (some (.builtin "BaseException.__getattribute__")))
    (gg_NoMessage : PySem.W.findIn K (.ref C_NoMessage) "__getattr__" = some none)
    (nb_NoMessage : PySem.W.findIn K (.ref C_NoMessage) "at" = some none)
    (iC_NoMessage : PySem.W.findIn K (.ref C_NoMessage) "__init__" = some (some (.ref eF)))
    (kC_NoMessage : PySem.W.keepIn K (.ref C_NoMessage) = true)
    (eC_NoMessage : PySem.W.subIn K (.ref C_NoMessage) (.type "BaseException") = some true)
    (vC_NoMessage : PySem.W.subIn K (.ref C_NoMessage) (.type "ValueError") = some true)
    (tC_NoMessage : PySem.W.typeIn K (.ref C_NoMessage) = some (.type "type"))
    (hC_NoMessage : PySem.W.hasDictIn K C_NoMessage = true)
    (mB_NoMessage : PySem.W.mroIn K C_NoMessage (.ref C_NetError) = some true)
    (su_NoMessage : PySem.W.ks_superIn K C_NoMessage C_NetError "__init__" = some (some (.builtin "ValueError.__init__")))
    (cl_NoMessage : PySem.W.findIn K (.ref C_NoMessage) "__class__" = some (some (.builtin "object.__class__")))
    (xL_BadTie : K.lookup C_BadTie = some (excClassObj nm_BadTie q_BadTie C_BadTie N_BadTie bs_BadTie [.ref C_NetError, .type "ValueError", .type "Exception", .type "BaseException", .type "object"] true sn_BadTie sub_BadTie ab_BadTie col_BadTie dd_BadTie m0_BadTie m1_BadTie m2_BadTie m3_BadTie m5_BadTie "ValueError.__new__"))
    (sa_BadTie : PySem.W.findIn K (.ref C_BadTie) "__setattr__" = some (some (.builtin "object.__setattr__")))
    (ga_BadTie : PySem.W.findIn K (.ref C_BadTie) "__getattribute__" = some (some (.builtin "BaseException.__getattribute__")))
    (gg_BadTie : PySem.W.findIn K (.ref C_BadTie) "__getattr__" = some none)
    (nb_BadTie : PySem.W.findIn K (.ref C_BadTie) "at" = some none)
    (iC_BadTie : PySem.W.findIn K (.ref C_BadTie) "__init__" = some (some (.ref eF)))
    (kC_BadTie : PySem.W.keepIn K (.ref C_BadTie) = true)
    (eC_BadTie : PySem.W.subIn K (.ref C_BadTie) (.type "BaseException") = some true)
    (vC_BadTie : PySem.W.subIn K (.ref C_BadTie) (.type "ValueError") = some true)
    (tC_BadTie : PySem.W.typeIn K (.ref C_BadTie) = some (.type "type"))
    (hC_BadTie : PySem.W.hasDictIn K C_BadTie = true)
    (mB_BadTie : PySem.W.mroIn K C_BadTie (.ref C_NetError) = some true)
    (su_BadTie : PySem.W.ks_superIn K C_BadTie C_NetError "__init__" = some (some (.builtin "ValueError.__init__")))
    (cl_BadTie : PySem.W.findIn K (.ref C_BadTie) "__class__" = some (some (.builtin "object.__class__")))
    (xL_BadOwner : K.lookup C_BadOwner = some (excClassObj nm_BadOwner q_BadOwner C_BadOwner N_BadOwner bs_BadOwner [.ref C_NetError, .type "ValueError", .type "Exception", .type "BaseException", .type "object"] true sn_BadOwner sub_BadOwner ab_BadOwner col_BadOwner dd_BadOwner m0_BadOwner m1_BadOwner m2_BadOwner m3_BadOwner m5_BadOwner "ValueError.__new__"))
    (sa_BadOwner : PySem.W.findIn K (.ref C_BadOwner) "__setattr__" = some (some (.builtin "object.__setattr__")))
    (ga_BadOwner : PySem.W.findIn K (.ref C_BadOwner) "__getattribute__" = some (some (.builtin "BaseException.__getattribute__")))
    (gg_BadOwner : PySem.W.findIn K (.ref C_BadOwner) "__getattr__" = some none)
    (nb_BadOwner : PySem.W.findIn K (.ref C_BadOwner) "at" = some none)
    (iC_BadOwner : PySem.W.findIn K (.ref C_BadOwner) "__init__" = some (some (.ref eF)))
    (kC_BadOwner : PySem.W.keepIn K (.ref C_BadOwner) = true)
    (eC_BadOwner : PySem.W.subIn K (.ref C_BadOwner) (.type "BaseException") = some true)
    (vC_BadOwner : PySem.W.subIn K (.ref C_BadOwner) (.type "ValueError") = some true)
    (tC_BadOwner : PySem.W.typeIn K (.ref C_BadOwner) = some (.type "type"))
    (hC_BadOwner : PySem.W.hasDictIn K C_BadOwner = true)
    (mB_BadOwner : PySem.W.mroIn K C_BadOwner (.ref C_NetError) = some true)
    (su_BadOwner : PySem.W.ks_superIn K C_BadOwner C_NetError "__init__" = some (some (.builtin "ValueError.__init__")))
    (cl_BadOwner : PySem.W.findIn K (.ref C_BadOwner) "__class__" = some (some (.builtin "object.__class__")))
    (xL_BadWish : K.lookup C_BadWish = some (excClassObj nm_BadWish q_BadWish C_BadWish N_BadWish bs_BadWish [.ref C_NetError, .type "ValueError", .type "Exception", .type "BaseException", .type "object"] true sn_BadWish sub_BadWish ab_BadWish col_BadWish dd_BadWish m0_BadWish m1_BadWish m2_BadWish m3_BadWish m5_BadWish "ValueError.__new__"))
    (sa_BadWish : PySem.W.findIn K (.ref C_BadWish) "__setattr__" = some (some (.builtin "object.__setattr__")))
    (ga_BadWish : PySem.W.findIn K (.ref C_BadWish) "__getattribute__" = some (some (.builtin "BaseException.__getattribute__")))
    (gg_BadWish : PySem.W.findIn K (.ref C_BadWish) "__getattr__" = some none)
    (nb_BadWish : PySem.W.findIn K (.ref C_BadWish) "at" = some none)
    (iC_BadWish : PySem.W.findIn K (.ref C_BadWish) "__init__" = some (some (.ref eF)))
    (kC_BadWish : PySem.W.keepIn K (.ref C_BadWish) = true)
    (eC_BadWish : PySem.W.subIn K (.ref C_BadWish) (.type "BaseException") = some true)
    (vC_BadWish : PySem.W.subIn K (.ref C_BadWish) (.type "ValueError") = some true)
    (tC_BadWish : PySem.W.typeIn K (.ref C_BadWish) = some (.type "type"))
    (hC_BadWish : PySem.W.hasDictIn K C_BadWish = true)
    (mB_BadWish : PySem.W.mroIn K C_BadWish (.ref C_NetError) = some true)
    (su_BadWish : PySem.W.ks_superIn K C_BadWish C_NetError "__init__" = some (some (.builtin "ValueError.__init__")))
    (cl_BadWish : PySem.W.findIn K (.ref C_BadWish) "__class__" = some (some (.builtin "object.__class__")))
    (xL_BadChange : K.lookup C_BadChange = some (excClassObj nm_BadChange q_BadChange C_BadChange N_BadChange bs_BadChange [.ref C_NetError, .type "ValueError", .type "Exception", .type "BaseException", .type "object"] true sn_BadChange sub_BadChange ab_BadChange col_BadChange dd_BadChange m0_BadChange m1_BadChange m2_BadChange m3_BadChange m5_BadChange "ValueError.__new__"))
    (sa_BadChange : PySem.W.findIn K (.ref C_BadChange) "__setattr__" = some (some (.builtin "object.__setattr__")))
    (ga_BadChange : PySem.W.findIn K (.ref C_BadChange) "__getattribute__" = some (some (.builtin "BaseException.__getattribute__")))
    (gg_BadChange : PySem.W.findIn K (.ref C_BadChange) "__getattr__" = some none)
    (nb_BadChange : PySem.W.findIn K (.ref C_BadChange) "at" = some none)
    (iC_BadChange : PySem.W.findIn K (.ref C_BadChange) "__init__" = some (some (.ref eF)))
    (kC_BadChange : PySem.W.keepIn K (.ref C_BadChange) = true)
    (eC_BadChange : PySem.W.subIn K (.ref C_BadChange) (.type "BaseException") = some true)
    (vC_BadChange : PySem.W.subIn K (.ref C_BadChange) (.type "ValueError") = some true)
    (tC_BadChange : PySem.W.typeIn K (.ref C_BadChange) = some (.type "type"))
    (hC_BadChange : PySem.W.hasDictIn K C_BadChange = true)
    (mB_BadChange : PySem.W.mroIn K C_BadChange (.ref C_NetError) = some true)
    (su_BadChange : PySem.W.ks_superIn K C_BadChange C_NetError "__init__" = some (some (.builtin "ValueError.__init__")))
    (cl_BadChange : PySem.W.findIn K (.ref C_BadChange) "__class__" = some (some (.builtin "object.__class__")))
    (xL_BadArea : K.lookup C_BadArea = some (excClassObj nm_BadArea q_BadArea C_BadArea N_BadArea bs_BadArea [.ref C_NetError, .type "ValueError", .type "Exception", .type "BaseException", .type "object"] true sn_BadArea sub_BadArea ab_BadArea col_BadArea dd_BadArea m0_BadArea m1_BadArea m2_BadArea m3_BadArea m5_BadArea "ValueError.__new__"))
    (sa_BadArea : PySem.W.findIn K (.ref C_BadArea) "__setattr__" = some (some (.builtin "object.__setattr__")))
    (ga_BadArea : PySem.W.findIn K (.ref C_BadArea) "__getattribute__" = some (some (.builtin "BaseException.__getattribute__")))
    (gg_BadArea : PySem.W.findIn K (.ref C_BadArea) "__getattr__" = some none)
    (nb_BadArea : PySem.W.findIn K (.ref C_BadArea) "at" = some none)
    (iC_BadArea : PySem.W.findIn K (.ref C_BadArea) "__init__" = some (some (.ref eF)))
    (kC_BadArea : PySem.W.keepIn K (.ref C_BadArea) = true)
    (eC_BadArea : PySem.W.subIn K (.ref C_BadArea) (.type "BaseException") = some true)
    (vC_BadArea : PySem.W.subIn K (.ref C_BadArea) (.type "ValueError") = some true)
    (tC_BadArea : PySem.W.typeIn K (.ref C_BadArea) = some (.type "type"))
    (hC_BadArea : PySem.W.hasDictIn K C_BadArea = true)
    (mB_BadArea : PySem.W.mroIn K C_BadArea (.ref C_NetError) = some true)
    (su_BadArea : PySem.W.ks_superIn K C_BadArea C_NetError "__init__" = some (some (.builtin "ValueError.__init__")))
    (cl_BadArea : PySem.W.findIn K (.ref C_BadArea) "__class__" = some (some (.builtin "object.__class__")))
    (xL_BadRange : K.lookup C_BadRange = some (excClassObj nm_BadRange q_BadRange C_BadRange N_BadRange bs_BadRange [.ref C_NetError, .type "ValueError", .type "Exception", .type "BaseException", .type "object"] true sn_BadRange sub_BadRange ab_BadRange col_BadRange dd_BadRange m0_BadRange m1_BadRange m2_BadRange m3_BadRange m5_BadRange "ValueError.__new__"))
    (sa_BadRange : PySem.W.findIn K (.ref C_BadRange) "__setattr__" = some (some (.builtin "object.__setattr__")))
    (ga_BadRange : PySem.W.findIn K (.ref C_BadRange) "__getattribute__" = some (some (.builtin "BaseException.__getattribute__")))
    (gg_BadRange : PySem.W.findIn K (.ref C_BadRange) "__getattr__" = some none)
    (nb_BadRange : PySem.W.findIn K (.ref C_BadRange) "at" = some none)
    (iC_BadRange : PySem.W.findIn K (.ref C_BadRange) "__init__" = some (some (.ref eF)))
    (kC_BadRange : PySem.W.keepIn K (.ref C_BadRange) = true)
    (eC_BadRange : PySem.W.subIn K (.ref C_BadRange) (.type "BaseException") = some true)
    (vC_BadRange : PySem.W.subIn K (.ref C_BadRange) (.type "ValueError") = some true)
    (tC_BadRange : PySem.W.typeIn K (.ref C_BadRange) = some (.type "type"))
    (hC_BadRange : PySem.W.hasDictIn K C_BadRange = true)
    (mB_BadRange : PySem.W.mroIn K C_BadRange (.ref C_NetError) = some true)
    (su_BadRange : PySem.W.ks_superIn K C_BadRange C_NetError "__init__" = some (some (.builtin "ValueError.__init__")))
    (cl_BadRange : PySem.W.findIn K (.ref C_BadRange) "__class__" = some (some (.builtin "object.__class__")))
    (xL_BadDomain : K.lookup C_BadDomain = some (excClassObj nm_BadDomain q_BadDomain C_BadDomain N_BadDomain bs_BadDomain [.ref C_NetError, .type "ValueError", .type "Exception", .type "BaseException", .type "object"] true sn_BadDomain sub_BadDomain ab_BadDomain col_BadDomain dd_BadDomain m0_BadDomain m1_BadDomain m2_BadDomain m3_BadDomain m5_BadDomain "ValueError.__new__"))
    (sa_BadDomain : PySem.W.findIn K (.ref C_BadDomain) "__setattr__" = some (some (.builtin "object.__setattr__")))
    (ga_BadDomain : PySem.W.findIn K (.ref C_BadDomain) "__getattribute__" = some (some (.builtin "BaseException.__getattribute__")))
    (gg_BadDomain : PySem.W.findIn K (.ref C_BadDomain) "__getattr__" = some none)
    (nb_BadDomain : PySem.W.findIn K (.ref C_BadDomain) "at" = some none)
    (iC_BadDomain : PySem.W.findIn K (.ref C_BadDomain) "__init__" = some (some (.ref eF)))
    (kC_BadDomain : PySem.W.keepIn K (.ref C_BadDomain) = true)
    (eC_BadDomain : PySem.W.subIn K (.ref C_BadDomain) (.type "BaseException") = some true)
    (vC_BadDomain : PySem.W.subIn K (.ref C_BadDomain) (.type "ValueError") = some true)
    (tC_BadDomain : PySem.W.typeIn K (.ref C_BadDomain) = some (.type "type"))
    (hC_BadDomain : PySem.W.hasDictIn K C_BadDomain = true)
    (mB_BadDomain : PySem.W.mroIn K C_BadDomain (.ref C_NetError) = some true)
    (su_BadDomain : PySem.W.ks_superIn K C_BadDomain C_NetError "__init__" = some (some (.builtin "ValueError.__init__")))
    (cl_BadDomain : PySem.W.findIn K (.ref C_BadDomain) "__class__" = some (some (.builtin "object.__class__")))
    (xL_BadHanding : K.lookup C_BadHanding = some (excClassObj nm_BadHanding q_BadHanding C_BadHanding N_BadHanding bs_BadHanding [.ref C_NetError, .type "ValueError", .type "Exception", .type "BaseException", .type "object"] true sn_BadHanding sub_BadHanding ab_BadHanding col_BadHanding dd_BadHanding m0_BadHanding m1_BadHanding m2_BadHanding m3_BadHanding m5_BadHanding "ValueError.__new__"))
    (sa_BadHanding : PySem.W.findIn K (.ref C_BadHanding) "__setattr__" = some (some (.builtin "object.__setattr__")))
    (ga_BadHanding : PySem.W.findIn K (.ref C_BadHanding) "__getattribute__" = some (some (.builtin "BaseException.__getattribute__")))
    (gg_BadHanding : PySem.W.findIn K (.ref C_BadHanding) "__getattr__" = some none)
    (nb_BadHanding : PySem.W.findIn K (.ref C_BadHanding) "at" = some none)
    (iC_BadHanding : PySem.W.findIn K (.ref C_BadHanding) "__init__" = some (some (.ref eF)))
    (kC_BadHanding : PySem.W.keepIn K (.ref C_BadHanding) = true)
    (eC_BadHanding : PySem.W.subIn K (.ref C_BadHanding) (.type "BaseException") = some true)
    (vC_BadHanding : PySem.W.subIn K (.ref C_BadHanding) (.type "ValueError") = some true)
    (tC_BadHanding : PySem.W.typeIn K (.ref C_BadHanding) = some (.type "type"))
    (hC_BadHanding : PySem.W.hasDictIn K C_BadHanding = true)
    (mB_BadHanding : PySem.W.mroIn K C_BadHanding (.ref C_NetError) = some true)
    (su_BadHanding : PySem.W.ks_superIn K C_BadHanding C_NetError "__init__" = some (some (.builtin "ValueError.__init__")))
    (cl_BadHanding : PySem.W.findIn K (.ref C_BadHanding) "__class__" = some (some (.builtin "object.__class__")))
    (xL_BadTeller : K.lookup C_BadTeller = some (excClassObj nm_BadTeller q_BadTeller C_BadTeller N_BadTeller bs_BadTeller [.ref C_NetError, .type "ValueError", .type "Exception", .type "BaseException", .type "object"] true sn_BadTeller sub_BadTeller ab_BadTeller col_BadTeller dd_BadTeller m0_BadTeller m1_BadTeller m2_BadTeller m3_BadTeller m5_BadTeller "ValueError.__new__"))
    (sa_BadTeller : PySem.W.findIn K (.ref C_BadTeller) "__setattr__" = some (some (.builtin "object.__setattr__")))
    (ga_BadTeller : PySem.W.findIn K (.ref C_BadTeller) "__getattribute__" = some (some (.builtin "BaseException.__getattribute__")))
    (gg_BadTeller : PySem.W.findIn K (.ref C_BadTeller) "__getattr__" = some none)
    (nb_BadTeller : PySem.W.findIn K (.ref C_BadTeller) "at" = some none)
    (iC_BadTeller : PySem.W.findIn K (.ref C_BadTeller) "__init__" = some (some (.ref eF)))
    (kC_BadTeller : PySem.W.keepIn K (.ref C_BadTeller) = true)
    (eC_BadTeller : PySem.W.subIn K (.ref C_BadTeller) (.type "BaseException") = some true)
    (vC_BadTeller : PySem.W.subIn K (.ref C_BadTeller) (.type "ValueError") = some true)
    (tC_BadTeller : PySem.W.typeIn K (.ref C_BadTeller) = some (.type "type"))
    (hC_BadTeller : PySem.W.hasDictIn K C_BadTeller = true)
    (mB_BadTeller : PySem.W.mroIn K C_BadTeller (.ref C_NetError) = some true)
    (su_BadTeller : PySem.W.ks_superIn K C_BadTeller C_NetError "__init__" = some (some (.builtin "ValueError.__init__")))
    (cl_BadTeller : PySem.W.findIn K (.ref C_BadTeller) "__class__" = some (some (.builtin "object.__class__")))
    (xL_BadLine : K.lookup C_BadLine = some (excClassObj nm_BadLine q_BadLine C_BadLine N_BadLine bs_BadLine [.ref C_NetError, .type "ValueError", .type "Exception", .type "BaseException", .type "object"] true sn_BadLine sub_BadLine ab_BadLine col_BadLine dd_BadLine m0_BadLine m1_BadLine m2_BadLine m3_BadLine m5_BadLine "ValueError.__new__"))
    (sa_BadLine : PySem.W.findIn K (.ref C_BadLine) "__setattr__" = some (some (.builtin "object.__setattr__")))
    (ga_BadLine : PySem.W.findIn K (.ref C_BadLine) "__getattribute__" = some (some (.builtin "BaseException.__getattribute__")))
    (gg_BadLine : PySem.W.findIn K (.ref C_BadLine) "__getattr__" = some none)
    (nb_BadLine : PySem.W.findIn K (.ref C_BadLine) "at" = some none)
    (iC_BadLine : PySem.W.findIn K (.ref C_BadLine) "__init__" = some (some (.ref eF)))
    (kC_BadLine : PySem.W.keepIn K (.ref C_BadLine) = true)
    (eC_BadLine : PySem.W.subIn K (.ref C_BadLine) (.type "BaseException") = some true)
    (vC_BadLine : PySem.W.subIn K (.ref C_BadLine) (.type "ValueError") = some true)
    (tC_BadLine : PySem.W.typeIn K (.ref C_BadLine) = some (.type "type"))
    (hC_BadLine : PySem.W.hasDictIn K C_BadLine = true)
    (mB_BadLine : PySem.W.mroIn K C_BadLine (.ref C_NetError) = some true)
    (su_BadLine : PySem.W.ks_superIn K C_BadLine C_NetError "__init__" = some (some (.builtin "ValueError.__init__")))
    (cl_BadLine : PySem.W.findIn K (.ref C_BadLine) "__class__" = some (some (.builtin "object.__class__")))
    (xL_BadDemand : K.lookup C_BadDemand = some (excClassObj nm_BadDemand q_BadDemand C_BadDemand N_BadDemand bs_BadDemand [.ref C_NetError, .type "ValueError", .type "Exception", .type "BaseException", .type "object"] true sn_BadDemand sub_BadDemand ab_BadDemand col_BadDemand dd_BadDemand m0_BadDemand m1_BadDemand m2_BadDemand m3_BadDemand m5_BadDemand "ValueError.__new__"))
    (sa_BadDemand : PySem.W.findIn K (.ref C_BadDemand) "__setattr__" = some (some (.builtin "object.__setattr__")))
    (ga_BadDemand : PySem.W.findIn K (.ref C_BadDemand) "__getattribute__" = some (some (.builtin "BaseException.__getattribute__")))
    (gg_BadDemand : PySem.W.findIn K (.ref C_BadDemand) "__getattr__" = some none)
    (nb_BadDemand : PySem.W.findIn K (.ref C_BadDemand) "at" = some none)
    (iC_BadDemand : PySem.W.findIn K (.ref C_BadDemand) "__init__" = some (some (.ref eF)))
    (kC_BadDemand : PySem.W.keepIn K (.ref C_BadDemand) = true)
    (eC_BadDemand : PySem.W.subIn K (.ref C_BadDemand) (.type "BaseException") = some true)
    (vC_BadDemand : PySem.W.subIn K (.ref C_BadDemand) (.type "ValueError") = some true)
    (tC_BadDemand : PySem.W.typeIn K (.ref C_BadDemand) = some (.type "type"))
    (hC_BadDemand : PySem.W.hasDictIn K C_BadDemand = true)
    (mB_BadDemand : PySem.W.mroIn K C_BadDemand (.ref C_NetError) = some true)
    (su_BadDemand : PySem.W.ks_superIn K C_BadDemand C_NetError "__init__" = some (some (.builtin "ValueError.__init__")))
    (cl_BadDemand : PySem.W.findIn K (.ref C_BadDemand) "__class__" = some (some (.builtin "object.__class__")))
    (el : K.lookup eF = some ⟨eoc, eod, .func (PySem.W.ksFn "__init__" "NetError.__init__" (neA ⟨7, 17, 7, 21⟩ ⟨7, 23, 7, 25⟩) (neB ⟨8, 8, 8, 13⟩ ⟨8, 8, 8, 15⟩ ⟨8, 8, 8, 24⟩ ⟨8, 25, 8, 27⟩ ⟨8, 8, 8, 28⟩ ⟨8, 8, 8, 28⟩ ⟨9, 8, 9, 12⟩ ⟨9, 8, 9, 15⟩ ⟨9, 18, 9, 20⟩ ⟨9, 8, 9, 20⟩) neS .none ekV edc epm ean (.ref ecda) ect ecc), eosl⟩)
    (ec : PySem.W.codeIn K (.ref ecda) "NetError.__init__" = true)
    (eh : K.lookup ecda = some ⟨eccl, ecdd, .fields evs, eccs⟩)
    (ev : evs[2]? = some (.str efile etf))
    (ef : ((l.prog.main.file : Str) == efile) = true)
    (ecl : K.lookup ecc = some ⟨ecl, ecld, .cell (some (.ref C_NetError)), ecsl⟩)
    (ecB : PySem.W.clsIn K C_NetError = some ecdB)
    (esup : PySem.W.nsIn K mainGlobals "super" = some none)
    (etp : PySem.W.nsIn K PySem.cStatics "thirdparty.any" = some none)
    (etop : (l.prog.main.scope.names.lookup ("super" : Str)).isSome = false)
    (etI : PySem.W.typeIn K (.ref eF) = some (.type "function"))
    (ege : PySem.W.specialIn K (.builtin "object.__class__") "__get__" = some (some (.builtin "getset_descriptor.__get__")))
    (etk : PySem.W.takesIn K (.builtin "object.__class__") = some true)
    (nd : ([C_NetError, C_OutOfRange, C_TooMany, C_BadPrefix, C_BadTable, C_BadFaults, C_BadWay, C_BadRouter, C_BadLink, C_BadCost, C_BadEvent, C_BadState, C_BadNet, C_BadPacket, C_BadRule, C_NoMessage, C_BadTie, C_BadOwner, C_BadWish, C_BadChange, C_BadArea, C_BadRange, C_BadDomain, C_BadHanding, C_BadTeller, C_BadLine, C_BadDemand] : List Addr).Nodup)
    (aF : PySem.W.nsIn K mainGlobals "Feasible" = some (some (.ref CF)))
    (mk1 : PySem.W.makesIn K CF = true)
    (mk2 : PySem.W.findIn K (.ref CF) "__init__" = some (some (.ref fI)))
    (mk3 : PySem.W.isFn K (.ref fI) = true)
    (mk4 : PySem.W.keepIn K (.ref CF) = true)
    (lI : K.lookup fI = some ⟨ocI, odI, .func (PySem.W.fnOf "__init__" "Feasible.__init__" (defArgs st_Feasible_init) (defBody st_Feasible_init) (defScope st_Feasible_init) .none kVI dcI pmI anI cdI ctI), slI⟩)
    (cI : PySem.W.codeIn K cdI "Feasible.__init__" = true)
    (kI : PySem.W.keepIn K (.ref fI) = true)
    (a0 : PySem.W.nsIn K mainGlobals "_law_draws" = some (some (.ref f0))) (l0 : K.lookup f0 = some ⟨oc0, od0, .func (PySem.W.fnOf "_law_draws" "_law_draws" (defArgs st__law_draws) (defBody st__law_draws) (defScope st__law_draws) .none kV0 dc0 pm0 an0 cd0 ct0), sl0⟩) (c0 : PySem.W.codeIn K cd0 "_law_draws" = true) (k0 : PySem.W.keepIn K (.ref f0) = true)
    (a1 : PySem.W.nsIn K mainGlobals "_law_mix" = some (some (.ref f1))) (l1 : K.lookup f1 = some ⟨oc1, od1, .func (PySem.W.fnOf "_law_mix" "_law_mix" (defArgs st__law_mix) (defBody st__law_mix) (defScope st__law_mix) .none kV1 dc1 pm1 an1 cd1 ct1), sl1⟩) (c1 : PySem.W.codeIn K cd1 "_law_mix" = true) (k1 : PySem.W.keepIn K (.ref f1) = true)
    (a2 : PySem.W.nsIn K mainGlobals "_law_kinds" = some (some (.ref f2))) (l2 : K.lookup f2 = some ⟨oc2, od2, .func (PySem.W.fnOf "_law_kinds" "_law_kinds" (defArgs st__law_kinds) (defBody st__law_kinds) (defScope st__law_kinds) .none kV2 dc2 pm2 an2 cd2 ct2), sl2⟩) (c2 : PySem.W.codeIn K cd2 "_law_kinds" = true) (k2 : PySem.W.keepIn K (.ref f2) = true)
    (a3 : PySem.W.nsIn K mainGlobals "_law_made" = some (some (.ref f3))) (l3 : K.lookup f3 = some ⟨oc3, od3, .func (PySem.W.fnOf "_law_made" "_law_made" (defArgs st__law_made) (defBody st__law_made) (defScope st__law_made) .none kV3 dc3 pm3 an3 cd3 ct3), sl3⟩) (c3 : PySem.W.codeIn K cd3 "_law_made" = true) (k3 : PySem.W.keepIn K (.ref f3) = true)
    (a4 : PySem.W.nsIn K mainGlobals "_law_raised" = some (some (.ref f4))) (l4 : K.lookup f4 = some ⟨oc4, od4, .func (PySem.W.fnOf "_law_raised" "_law_raised" (defArgs st__law_raised) (defBody st__law_raised) (defScope st__law_raised) .none kV4 dc4 pm4 an4 cd4 ct4), sl4⟩) (c4 : PySem.W.codeIn K cd4 "_law_raised" = true) (k4 : PySem.W.keepIn K (.ref f4) = true)
    (a5 : PySem.W.nsIn K mainGlobals "law" = some (some (.ref f5))) (l5 : K.lookup f5 = some ⟨oc5, od5, .func (PySem.W.fnOf "law" "law" (defArgs st_law) (defBody st_law) (defScope st_law) .none kV5 dc5 pm5 an5 cd5 ct5), sl5⟩) (c5 : PySem.W.codeIn K cd5 "law" = true) (k5 : PySem.W.keepIn K (.ref f5) = true)
    (z_len : PySem.W.nsIn K mainGlobals "len" = some none)
    (z_min : PySem.W.nsIn K mainGlobals "min" = some none)
    (z_range : PySem.W.nsIn K mainGlobals "range" = some none)
    (z_abs : PySem.W.nsIn K mainGlobals "abs" = some none)
    (z_int : PySem.W.nsIn K mainGlobals "int" = some none)
    (z_isinstance : PySem.W.nsIn K mainGlobals "isinstance" = some none)
    (z_ValueError : PySem.W.nsIn K mainGlobals "ValueError" = some none)
    (z_bool : PySem.W.nsIn K mainGlobals "bool" = some none)
    (m_MOST_ROUTERS : PySem.W.nsIn K mainGlobals "MOST_ROUTERS" = some (some (.int 16 t_MOST_ROUTERS)))
    : ∃ fd : FuncData, (∀ (s : Shared) (v : Value), BindsTo s fd ⟨[v], []⟩ [("script", v)]) ∧ ∀ base : Heap, K.In base → base.Ns mainGlobals mg → FnG l.prog w K mg base 5 fa fd ["script"] (spS K w mg F_law) := by
  have e := hfa.symm.trans (PySem.W.mg_of X G a5)
  cases e
  have Z : Zs K mg := ⟨PySem.W.mg_none_of X G z_len, PySem.W.mg_none_of X G z_min, PySem.W.mg_none_of X G z_range, PySem.W.mg_none_of X G z_abs, PySem.W.mg_none_of X G z_int, PySem.W.mg_none_of X G z_isinstance, PySem.W.mg_none_of X G z_ValueError, PySem.W.mg_none_of X G z_bool, ⟨_, PySem.W.mg_of X G m_MOST_ROUTERS⟩⟩
  have n_NetError : NetC K C_NetError eF C_NetError := ⟨⟨_, _, _, _, _, _, _, _, _, _, _, _, _, _, _, xL_NetError, refsVE_base⟩, sa_NetError, ga_NetError, gg_NetError, nb_NetError, iC_NetError, kC_NetError, eC_NetError, vC_NetError, tC_NetError, hC_NetError, mB_NetError, su_NetError⟩
  have t_NetError : ClT K C_NetError eF ("NetError", C_NetError) := ⟨a_NetError, ⟨n_NetError, cl_NetError, (mro_exc xL_NetError _).trans rfl, ege, etk⟩, _, mro_exc xL_NetError, .inr ⟨rfl, rfl⟩⟩
  have n_OutOfRange : NetC K C_NetError eF C_OutOfRange := ⟨⟨_, _, _, _, _, _, _, _, _, _, _, _, _, _, _, xL_OutOfRange, refsVE_one⟩, sa_OutOfRange, ga_OutOfRange, gg_OutOfRange, nb_OutOfRange, iC_OutOfRange, kC_OutOfRange, eC_OutOfRange, vC_OutOfRange, tC_OutOfRange, hC_OutOfRange, mB_OutOfRange, su_OutOfRange⟩
  have t_OutOfRange : ClT K C_NetError eF ("OutOfRange", C_OutOfRange) := ⟨a_OutOfRange, ⟨n_OutOfRange, cl_OutOfRange, (mro_exc xL_OutOfRange _).trans rfl, ege, etk⟩, _, mro_exc xL_OutOfRange, .inl rfl⟩
  have n_TooMany : NetC K C_NetError eF C_TooMany := ⟨⟨_, _, _, _, _, _, _, _, _, _, _, _, _, _, _, xL_TooMany, refsVE_one⟩, sa_TooMany, ga_TooMany, gg_TooMany, nb_TooMany, iC_TooMany, kC_TooMany, eC_TooMany, vC_TooMany, tC_TooMany, hC_TooMany, mB_TooMany, su_TooMany⟩
  have t_TooMany : ClT K C_NetError eF ("TooMany", C_TooMany) := ⟨a_TooMany, ⟨n_TooMany, cl_TooMany, (mro_exc xL_TooMany _).trans rfl, ege, etk⟩, _, mro_exc xL_TooMany, .inl rfl⟩
  have n_BadPrefix : NetC K C_NetError eF C_BadPrefix := ⟨⟨_, _, _, _, _, _, _, _, _, _, _, _, _, _, _, xL_BadPrefix, refsVE_one⟩, sa_BadPrefix, ga_BadPrefix, gg_BadPrefix, nb_BadPrefix, iC_BadPrefix, kC_BadPrefix, eC_BadPrefix, vC_BadPrefix, tC_BadPrefix, hC_BadPrefix, mB_BadPrefix, su_BadPrefix⟩
  have t_BadPrefix : ClT K C_NetError eF ("BadPrefix", C_BadPrefix) := ⟨a_BadPrefix, ⟨n_BadPrefix, cl_BadPrefix, (mro_exc xL_BadPrefix _).trans rfl, ege, etk⟩, _, mro_exc xL_BadPrefix, .inl rfl⟩
  have n_BadTable : NetC K C_NetError eF C_BadTable := ⟨⟨_, _, _, _, _, _, _, _, _, _, _, _, _, _, _, xL_BadTable, refsVE_one⟩, sa_BadTable, ga_BadTable, gg_BadTable, nb_BadTable, iC_BadTable, kC_BadTable, eC_BadTable, vC_BadTable, tC_BadTable, hC_BadTable, mB_BadTable, su_BadTable⟩
  have t_BadTable : ClT K C_NetError eF ("BadTable", C_BadTable) := ⟨a_BadTable, ⟨n_BadTable, cl_BadTable, (mro_exc xL_BadTable _).trans rfl, ege, etk⟩, _, mro_exc xL_BadTable, .inl rfl⟩
  have n_BadFaults : NetC K C_NetError eF C_BadFaults := ⟨⟨_, _, _, _, _, _, _, _, _, _, _, _, _, _, _, xL_BadFaults, refsVE_one⟩, sa_BadFaults, ga_BadFaults, gg_BadFaults, nb_BadFaults, iC_BadFaults, kC_BadFaults, eC_BadFaults, vC_BadFaults, tC_BadFaults, hC_BadFaults, mB_BadFaults, su_BadFaults⟩
  have t_BadFaults : ClT K C_NetError eF ("BadFaults", C_BadFaults) := ⟨a_BadFaults, ⟨n_BadFaults, cl_BadFaults, (mro_exc xL_BadFaults _).trans rfl, ege, etk⟩, _, mro_exc xL_BadFaults, .inl rfl⟩
  have n_BadWay : NetC K C_NetError eF C_BadWay := ⟨⟨_, _, _, _, _, _, _, _, _, _, _, _, _, _, _, xL_BadWay, refsVE_one⟩, sa_BadWay, ga_BadWay, gg_BadWay, nb_BadWay, iC_BadWay, kC_BadWay, eC_BadWay, vC_BadWay, tC_BadWay, hC_BadWay, mB_BadWay, su_BadWay⟩
  have t_BadWay : ClT K C_NetError eF ("BadWay", C_BadWay) := ⟨a_BadWay, ⟨n_BadWay, cl_BadWay, (mro_exc xL_BadWay _).trans rfl, ege, etk⟩, _, mro_exc xL_BadWay, .inl rfl⟩
  have n_BadRouter : NetC K C_NetError eF C_BadRouter := ⟨⟨_, _, _, _, _, _, _, _, _, _, _, _, _, _, _, xL_BadRouter, refsVE_one⟩, sa_BadRouter, ga_BadRouter, gg_BadRouter, nb_BadRouter, iC_BadRouter, kC_BadRouter, eC_BadRouter, vC_BadRouter, tC_BadRouter, hC_BadRouter, mB_BadRouter, su_BadRouter⟩
  have t_BadRouter : ClT K C_NetError eF ("BadRouter", C_BadRouter) := ⟨a_BadRouter, ⟨n_BadRouter, cl_BadRouter, (mro_exc xL_BadRouter _).trans rfl, ege, etk⟩, _, mro_exc xL_BadRouter, .inl rfl⟩
  have n_BadLink : NetC K C_NetError eF C_BadLink := ⟨⟨_, _, _, _, _, _, _, _, _, _, _, _, _, _, _, xL_BadLink, refsVE_one⟩, sa_BadLink, ga_BadLink, gg_BadLink, nb_BadLink, iC_BadLink, kC_BadLink, eC_BadLink, vC_BadLink, tC_BadLink, hC_BadLink, mB_BadLink, su_BadLink⟩
  have t_BadLink : ClT K C_NetError eF ("BadLink", C_BadLink) := ⟨a_BadLink, ⟨n_BadLink, cl_BadLink, (mro_exc xL_BadLink _).trans rfl, ege, etk⟩, _, mro_exc xL_BadLink, .inl rfl⟩
  have n_BadCost : NetC K C_NetError eF C_BadCost := ⟨⟨_, _, _, _, _, _, _, _, _, _, _, _, _, _, _, xL_BadCost, refsVE_one⟩, sa_BadCost, ga_BadCost, gg_BadCost, nb_BadCost, iC_BadCost, kC_BadCost, eC_BadCost, vC_BadCost, tC_BadCost, hC_BadCost, mB_BadCost, su_BadCost⟩
  have t_BadCost : ClT K C_NetError eF ("BadCost", C_BadCost) := ⟨a_BadCost, ⟨n_BadCost, cl_BadCost, (mro_exc xL_BadCost _).trans rfl, ege, etk⟩, _, mro_exc xL_BadCost, .inl rfl⟩
  have n_BadEvent : NetC K C_NetError eF C_BadEvent := ⟨⟨_, _, _, _, _, _, _, _, _, _, _, _, _, _, _, xL_BadEvent, refsVE_one⟩, sa_BadEvent, ga_BadEvent, gg_BadEvent, nb_BadEvent, iC_BadEvent, kC_BadEvent, eC_BadEvent, vC_BadEvent, tC_BadEvent, hC_BadEvent, mB_BadEvent, su_BadEvent⟩
  have t_BadEvent : ClT K C_NetError eF ("BadEvent", C_BadEvent) := ⟨a_BadEvent, ⟨n_BadEvent, cl_BadEvent, (mro_exc xL_BadEvent _).trans rfl, ege, etk⟩, _, mro_exc xL_BadEvent, .inl rfl⟩
  have n_BadState : NetC K C_NetError eF C_BadState := ⟨⟨_, _, _, _, _, _, _, _, _, _, _, _, _, _, _, xL_BadState, refsVE_one⟩, sa_BadState, ga_BadState, gg_BadState, nb_BadState, iC_BadState, kC_BadState, eC_BadState, vC_BadState, tC_BadState, hC_BadState, mB_BadState, su_BadState⟩
  have t_BadState : ClT K C_NetError eF ("BadState", C_BadState) := ⟨a_BadState, ⟨n_BadState, cl_BadState, (mro_exc xL_BadState _).trans rfl, ege, etk⟩, _, mro_exc xL_BadState, .inl rfl⟩
  have n_BadNet : NetC K C_NetError eF C_BadNet := ⟨⟨_, _, _, _, _, _, _, _, _, _, _, _, _, _, _, xL_BadNet, refsVE_one⟩, sa_BadNet, ga_BadNet, gg_BadNet, nb_BadNet, iC_BadNet, kC_BadNet, eC_BadNet, vC_BadNet, tC_BadNet, hC_BadNet, mB_BadNet, su_BadNet⟩
  have t_BadNet : ClT K C_NetError eF ("BadNet", C_BadNet) := ⟨a_BadNet, ⟨n_BadNet, cl_BadNet, (mro_exc xL_BadNet _).trans rfl, ege, etk⟩, _, mro_exc xL_BadNet, .inl rfl⟩
  have n_BadPacket : NetC K C_NetError eF C_BadPacket := ⟨⟨_, _, _, _, _, _, _, _, _, _, _, _, _, _, _, xL_BadPacket, refsVE_one⟩, sa_BadPacket, ga_BadPacket, gg_BadPacket, nb_BadPacket, iC_BadPacket, kC_BadPacket, eC_BadPacket, vC_BadPacket, tC_BadPacket, hC_BadPacket, mB_BadPacket, su_BadPacket⟩
  have t_BadPacket : ClT K C_NetError eF ("BadPacket", C_BadPacket) := ⟨a_BadPacket, ⟨n_BadPacket, cl_BadPacket, (mro_exc xL_BadPacket _).trans rfl, ege, etk⟩, _, mro_exc xL_BadPacket, .inl rfl⟩
  have n_BadRule : NetC K C_NetError eF C_BadRule := ⟨⟨_, _, _, _, _, _, _, _, _, _, _, _, _, _, _, xL_BadRule, refsVE_one⟩, sa_BadRule, ga_BadRule, gg_BadRule, nb_BadRule, iC_BadRule, kC_BadRule, eC_BadRule, vC_BadRule, tC_BadRule, hC_BadRule, mB_BadRule, su_BadRule⟩
  have t_BadRule : ClT K C_NetError eF ("BadRule", C_BadRule) := ⟨a_BadRule, ⟨n_BadRule, cl_BadRule, (mro_exc xL_BadRule _).trans rfl, ege, etk⟩, _, mro_exc xL_BadRule, .inl rfl⟩
  have n_NoMessage : NetC K C_NetError eF C_NoMessage := ⟨⟨_, _, _, _, _, _, _, _, _, _, _, _, _, _, _, xL_NoMessage, refsVE_one⟩, sa_NoMessage, ga_NoMessage, gg_NoMessage, nb_NoMessage, iC_NoMessage, kC_NoMessage, eC_NoMessage, vC_NoMessage, tC_NoMessage, hC_NoMessage, mB_NoMessage, su_NoMessage⟩
  have t_NoMessage : ClT K C_NetError eF ("NoMessage", C_NoMessage) := ⟨a_NoMessage, ⟨n_NoMessage, cl_NoMessage, (mro_exc xL_NoMessage _).trans rfl, ege, etk⟩, _, mro_exc xL_NoMessage, .inl rfl⟩
  have n_BadTie : NetC K C_NetError eF C_BadTie := ⟨⟨_, _, _, _, _, _, _, _, _, _, _, _, _, _, _, xL_BadTie, refsVE_one⟩, sa_BadTie, ga_BadTie, gg_BadTie, nb_BadTie, iC_BadTie, kC_BadTie, eC_BadTie, vC_BadTie, tC_BadTie, hC_BadTie, mB_BadTie, su_BadTie⟩
  have t_BadTie : ClT K C_NetError eF ("BadTie", C_BadTie) := ⟨a_BadTie, ⟨n_BadTie, cl_BadTie, (mro_exc xL_BadTie _).trans rfl, ege, etk⟩, _, mro_exc xL_BadTie, .inl rfl⟩
  have n_BadOwner : NetC K C_NetError eF C_BadOwner := ⟨⟨_, _, _, _, _, _, _, _, _, _, _, _, _, _, _, xL_BadOwner, refsVE_one⟩, sa_BadOwner, ga_BadOwner, gg_BadOwner, nb_BadOwner, iC_BadOwner, kC_BadOwner, eC_BadOwner, vC_BadOwner, tC_BadOwner, hC_BadOwner, mB_BadOwner, su_BadOwner⟩
  have t_BadOwner : ClT K C_NetError eF ("BadOwner", C_BadOwner) := ⟨a_BadOwner, ⟨n_BadOwner, cl_BadOwner, (mro_exc xL_BadOwner _).trans rfl, ege, etk⟩, _, mro_exc xL_BadOwner, .inl rfl⟩
  have n_BadWish : NetC K C_NetError eF C_BadWish := ⟨⟨_, _, _, _, _, _, _, _, _, _, _, _, _, _, _, xL_BadWish, refsVE_one⟩, sa_BadWish, ga_BadWish, gg_BadWish, nb_BadWish, iC_BadWish, kC_BadWish, eC_BadWish, vC_BadWish, tC_BadWish, hC_BadWish, mB_BadWish, su_BadWish⟩
  have t_BadWish : ClT K C_NetError eF ("BadWish", C_BadWish) := ⟨a_BadWish, ⟨n_BadWish, cl_BadWish, (mro_exc xL_BadWish _).trans rfl, ege, etk⟩, _, mro_exc xL_BadWish, .inl rfl⟩
  have n_BadChange : NetC K C_NetError eF C_BadChange := ⟨⟨_, _, _, _, _, _, _, _, _, _, _, _, _, _, _, xL_BadChange, refsVE_one⟩, sa_BadChange, ga_BadChange, gg_BadChange, nb_BadChange, iC_BadChange, kC_BadChange, eC_BadChange, vC_BadChange, tC_BadChange, hC_BadChange, mB_BadChange, su_BadChange⟩
  have t_BadChange : ClT K C_NetError eF ("BadChange", C_BadChange) := ⟨a_BadChange, ⟨n_BadChange, cl_BadChange, (mro_exc xL_BadChange _).trans rfl, ege, etk⟩, _, mro_exc xL_BadChange, .inl rfl⟩
  have n_BadArea : NetC K C_NetError eF C_BadArea := ⟨⟨_, _, _, _, _, _, _, _, _, _, _, _, _, _, _, xL_BadArea, refsVE_one⟩, sa_BadArea, ga_BadArea, gg_BadArea, nb_BadArea, iC_BadArea, kC_BadArea, eC_BadArea, vC_BadArea, tC_BadArea, hC_BadArea, mB_BadArea, su_BadArea⟩
  have t_BadArea : ClT K C_NetError eF ("BadArea", C_BadArea) := ⟨a_BadArea, ⟨n_BadArea, cl_BadArea, (mro_exc xL_BadArea _).trans rfl, ege, etk⟩, _, mro_exc xL_BadArea, .inl rfl⟩
  have n_BadRange : NetC K C_NetError eF C_BadRange := ⟨⟨_, _, _, _, _, _, _, _, _, _, _, _, _, _, _, xL_BadRange, refsVE_one⟩, sa_BadRange, ga_BadRange, gg_BadRange, nb_BadRange, iC_BadRange, kC_BadRange, eC_BadRange, vC_BadRange, tC_BadRange, hC_BadRange, mB_BadRange, su_BadRange⟩
  have t_BadRange : ClT K C_NetError eF ("BadRange", C_BadRange) := ⟨a_BadRange, ⟨n_BadRange, cl_BadRange, (mro_exc xL_BadRange _).trans rfl, ege, etk⟩, _, mro_exc xL_BadRange, .inl rfl⟩
  have n_BadDomain : NetC K C_NetError eF C_BadDomain := ⟨⟨_, _, _, _, _, _, _, _, _, _, _, _, _, _, _, xL_BadDomain, refsVE_one⟩, sa_BadDomain, ga_BadDomain, gg_BadDomain, nb_BadDomain, iC_BadDomain, kC_BadDomain, eC_BadDomain, vC_BadDomain, tC_BadDomain, hC_BadDomain, mB_BadDomain, su_BadDomain⟩
  have t_BadDomain : ClT K C_NetError eF ("BadDomain", C_BadDomain) := ⟨a_BadDomain, ⟨n_BadDomain, cl_BadDomain, (mro_exc xL_BadDomain _).trans rfl, ege, etk⟩, _, mro_exc xL_BadDomain, .inl rfl⟩
  have n_BadHanding : NetC K C_NetError eF C_BadHanding := ⟨⟨_, _, _, _, _, _, _, _, _, _, _, _, _, _, _, xL_BadHanding, refsVE_one⟩, sa_BadHanding, ga_BadHanding, gg_BadHanding, nb_BadHanding, iC_BadHanding, kC_BadHanding, eC_BadHanding, vC_BadHanding, tC_BadHanding, hC_BadHanding, mB_BadHanding, su_BadHanding⟩
  have t_BadHanding : ClT K C_NetError eF ("BadHanding", C_BadHanding) := ⟨a_BadHanding, ⟨n_BadHanding, cl_BadHanding, (mro_exc xL_BadHanding _).trans rfl, ege, etk⟩, _, mro_exc xL_BadHanding, .inl rfl⟩
  have n_BadTeller : NetC K C_NetError eF C_BadTeller := ⟨⟨_, _, _, _, _, _, _, _, _, _, _, _, _, _, _, xL_BadTeller, refsVE_one⟩, sa_BadTeller, ga_BadTeller, gg_BadTeller, nb_BadTeller, iC_BadTeller, kC_BadTeller, eC_BadTeller, vC_BadTeller, tC_BadTeller, hC_BadTeller, mB_BadTeller, su_BadTeller⟩
  have t_BadTeller : ClT K C_NetError eF ("BadTeller", C_BadTeller) := ⟨a_BadTeller, ⟨n_BadTeller, cl_BadTeller, (mro_exc xL_BadTeller _).trans rfl, ege, etk⟩, _, mro_exc xL_BadTeller, .inl rfl⟩
  have n_BadLine : NetC K C_NetError eF C_BadLine := ⟨⟨_, _, _, _, _, _, _, _, _, _, _, _, _, _, _, xL_BadLine, refsVE_one⟩, sa_BadLine, ga_BadLine, gg_BadLine, nb_BadLine, iC_BadLine, kC_BadLine, eC_BadLine, vC_BadLine, tC_BadLine, hC_BadLine, mB_BadLine, su_BadLine⟩
  have t_BadLine : ClT K C_NetError eF ("BadLine", C_BadLine) := ⟨a_BadLine, ⟨n_BadLine, cl_BadLine, (mro_exc xL_BadLine _).trans rfl, ege, etk⟩, _, mro_exc xL_BadLine, .inl rfl⟩
  have n_BadDemand : NetC K C_NetError eF C_BadDemand := ⟨⟨_, _, _, _, _, _, _, _, _, _, _, _, _, _, _, xL_BadDemand, refsVE_one⟩, sa_BadDemand, ga_BadDemand, gg_BadDemand, nb_BadDemand, iC_BadDemand, kC_BadDemand, eC_BadDemand, vC_BadDemand, tC_BadDemand, hC_BadDemand, mB_BadDemand, su_BadDemand⟩
  have t_BadDemand : ClT K C_NetError eF ("BadDemand", C_BadDemand) := ⟨a_BadDemand, ⟨n_BadDemand, cl_BadDemand, (mro_exc xL_BadDemand _).trans rfl, ege, etk⟩, _, mro_exc xL_BadDemand, .inl rfl⟩
  have Er : Es l.prog K mg C_NetError eF := ⟨⟨⟨_, _, _, _, _, _, _, _, _, _, _, _, _, _, _, _, _, _, _, _, _, _, el, rfl, ec, ⟨_, _, _, _, _, _, eh, ev, ef⟩, _, _, _, ecl⟩, ⟨_, ecB⟩, PySem.W.mg_none_of X G esup, etp, etop, etI⟩, [("NetError", C_NetError), ("OutOfRange", C_OutOfRange), ("TooMany", C_TooMany), ("BadPrefix", C_BadPrefix), ("BadTable", C_BadTable), ("BadFaults", C_BadFaults), ("BadWay", C_BadWay), ("BadRouter", C_BadRouter), ("BadLink", C_BadLink), ("BadCost", C_BadCost), ("BadEvent", C_BadEvent), ("BadState", C_BadState), ("BadNet", C_BadNet), ("BadPacket", C_BadPacket), ("BadRule", C_BadRule), ("NoMessage", C_NoMessage), ("BadTie", C_BadTie), ("BadOwner", C_BadOwner), ("BadWish", C_BadWish), ("BadChange", C_BadChange), ("BadArea", C_BadArea), ("BadRange", C_BadRange), ("BadDomain", C_BadDomain), ("BadHanding", C_BadHanding), ("BadTeller", C_BadTeller), ("BadLine", C_BadLine), ("BadDemand", C_BadDemand)], rfl, nd, List.mem_cons_self, List.forall_mem_cons.mpr ⟨⟨t_NetError, PySem.W.mg_of X G a_NetError⟩, List.forall_mem_cons.mpr ⟨⟨t_OutOfRange, PySem.W.mg_of X G a_OutOfRange⟩, List.forall_mem_cons.mpr ⟨⟨t_TooMany, PySem.W.mg_of X G a_TooMany⟩, List.forall_mem_cons.mpr ⟨⟨t_BadPrefix, PySem.W.mg_of X G a_BadPrefix⟩, List.forall_mem_cons.mpr ⟨⟨t_BadTable, PySem.W.mg_of X G a_BadTable⟩, List.forall_mem_cons.mpr ⟨⟨t_BadFaults, PySem.W.mg_of X G a_BadFaults⟩, List.forall_mem_cons.mpr ⟨⟨t_BadWay, PySem.W.mg_of X G a_BadWay⟩, List.forall_mem_cons.mpr ⟨⟨t_BadRouter, PySem.W.mg_of X G a_BadRouter⟩, List.forall_mem_cons.mpr ⟨⟨t_BadLink, PySem.W.mg_of X G a_BadLink⟩, List.forall_mem_cons.mpr ⟨⟨t_BadCost, PySem.W.mg_of X G a_BadCost⟩, List.forall_mem_cons.mpr ⟨⟨t_BadEvent, PySem.W.mg_of X G a_BadEvent⟩, List.forall_mem_cons.mpr ⟨⟨t_BadState, PySem.W.mg_of X G a_BadState⟩, List.forall_mem_cons.mpr ⟨⟨t_BadNet, PySem.W.mg_of X G a_BadNet⟩, List.forall_mem_cons.mpr ⟨⟨t_BadPacket, PySem.W.mg_of X G a_BadPacket⟩, List.forall_mem_cons.mpr ⟨⟨t_BadRule, PySem.W.mg_of X G a_BadRule⟩, List.forall_mem_cons.mpr ⟨⟨t_NoMessage, PySem.W.mg_of X G a_NoMessage⟩, List.forall_mem_cons.mpr ⟨⟨t_BadTie, PySem.W.mg_of X G a_BadTie⟩, List.forall_mem_cons.mpr ⟨⟨t_BadOwner, PySem.W.mg_of X G a_BadOwner⟩, List.forall_mem_cons.mpr ⟨⟨t_BadWish, PySem.W.mg_of X G a_BadWish⟩, List.forall_mem_cons.mpr ⟨⟨t_BadChange, PySem.W.mg_of X G a_BadChange⟩, List.forall_mem_cons.mpr ⟨⟨t_BadArea, PySem.W.mg_of X G a_BadArea⟩, List.forall_mem_cons.mpr ⟨⟨t_BadRange, PySem.W.mg_of X G a_BadRange⟩, List.forall_mem_cons.mpr ⟨⟨t_BadDomain, PySem.W.mg_of X G a_BadDomain⟩, List.forall_mem_cons.mpr ⟨⟨t_BadHanding, PySem.W.mg_of X G a_BadHanding⟩, List.forall_mem_cons.mpr ⟨⟨t_BadTeller, PySem.W.mg_of X G a_BadTeller⟩, List.forall_mem_cons.mpr ⟨⟨t_BadLine, PySem.W.mg_of X G a_BadLine⟩, List.forall_mem_cons.mpr ⟨⟨t_BadDemand, PySem.W.mg_of X G a_BadDemand⟩, List.forall_mem_nil _⟩⟩⟩⟩⟩⟩⟩⟩⟩⟩⟩⟩⟩⟩⟩⟩⟩⟩⟩⟩⟩⟩⟩⟩⟩⟩⟩⟩
  have F0 := fun_mk (st := st__law_draws) l0 c0 k0
  have b0 := F0.binds (ps := P__law_draws) fun _ _ _ _ _ _ us hl => match us, hl with | [_], _ => rfl
  have F1 := fun_mk (st := st__law_mix) l1 c1 k1
  have b1 := F1.binds (ps := P__law_mix) fun _ _ _ _ _ _ us hl => match us, hl with | [_, _, _], _ => rfl
  have F2 := fun_mk (st := st__law_kinds) l2 c2 k2
  have b2 := F2.binds (ps := P__law_kinds) fun _ _ _ _ _ _ us hl => match us, hl with | [_], _ => rfl
  have F3 := fun_mk (st := st__law_made) l3 c3 k3
  have b3 := F3.binds (ps := P__law_made) fun _ _ _ _ _ _ us hl => match us, hl with | [_], _ => rfl
  have F4 := fun_mk (st := st__law_raised) l4 c4 k4
  have b4 := F4.binds (ps := P__law_raised) fun _ _ _ _ _ _ us hl => match us, hl with | [_], _ => rfl
  have F5 := fun_mk (st := st_law) l5 c5 k5
  have FI := fun_mk (st := st_Feasible_init) lI cI kI
  have bI := FI.binds (ps := P_Feasible_init) fun _ _ _ _ _ _ us hl => match us, hl with | [_, _, _, _], _ => rfl
  refine ⟨PySem.W.fnOf "law" "law" (defArgs st_law) (defBody st_law) (defScope st_law) .none kV5 dc5 pm5 an5 cd5 ct5, fun s v => .of_eq rfl, fun base _ _ => ?_⟩
  have d0 := ok__law_draws (P := l.prog) (w := w) (base := base) Z Er F0 (PySem.W.mg_of X G a0) b0
  have d1 := ok__law_mix (P := l.prog) (w := w) (base := base) Z Er F1 (PySem.W.mg_of X G a1) b1
  have d2 := ok__law_kinds (P := l.prog) (w := w) (base := base) Z Er F2 (PySem.W.mg_of X G a2) b2
  have d3 := ok__law_made (P := l.prog) (w := w) (base := base) Z Er F3 (PySem.W.mg_of X G a3) b3
  have dI := ok_Feasible_init (P := l.prog) (w := w) (base := base) Z Er FI
  have d4 := ok__law_raised (P := l.prog) (w := w) (base := base) Z Er ⟨mk1, mk2, mk3, mk4⟩ (PySem.W.mg_of X G aF) dI bI F4 (PySem.W.mg_of X G a4) b4
  exact fn_law Z Er d1 d2 d3 d4 d0 F5
end K00
open PySem PySem.W PyProof.Rows
set_option maxHeartbeats 0 in
theorem PySem.Challenge.cw_waysflooded_k00_errors_are_apart_holds : PySem.Challenge.rw_waysflooded_k00_errors_are_apart.Holds := by
  w_on; o_law; k_head; (case hw => w_witness2)
  k_fill
  refine DP.walk_law (l := PySem.Challenge.rw_waysflooded_k00_errors_are_apart) (n := 63) (k := 5) (x := "script") (F := K00.F_law) rfl (by decide) rfl ⟨rfl, by decide, by decide⟩ (fun w h Y => PySem.W.kIn_of Y) ?F K00.good
  case F =>
    intro w mg fa h KX G hmg
    refine' K00.all_mk KX G hmg ?a_NetError ?a_OutOfRange ?a_TooMany ?a_BadPrefix ?a_BadTable ?a_BadFaults ?a_BadWay ?a_BadRouter ?a_BadLink ?a_BadCost ?a_BadEvent ?a_BadState ?a_BadNet ?a_BadPacket ?a_BadRule ?a_NoMessage ?a_BadTie ?a_BadOwner ?a_BadWish ?a_BadChange ?a_BadArea ?a_BadRange ?a_BadDomain ?a_BadHanding ?a_BadTeller ?a_BadLine ?a_BadDemand ?xL_NetError ?sa_NetError ?ga_NetError ?gg_NetError ?nb_NetError ?iC_NetError ?kC_NetError ?eC_NetError ?vC_NetError ?tC_NetError ?hC_NetError ?mB_NetError ?su_NetError ?cl_NetError ?xL_OutOfRange ?sa_OutOfRange ?ga_OutOfRange ?gg_OutOfRange ?nb_OutOfRange ?iC_OutOfRange ?kC_OutOfRange ?eC_OutOfRange ?vC_OutOfRange ?tC_OutOfRange ?hC_OutOfRange ?mB_OutOfRange ?su_OutOfRange ?cl_OutOfRange ?xL_TooMany ?sa_TooMany ?ga_TooMany ?gg_TooMany ?nb_TooMany ?iC_TooMany ?kC_TooMany ?eC_TooMany ?vC_TooMany ?tC_TooMany ?hC_TooMany ?mB_TooMany ?su_TooMany ?cl_TooMany ?xL_BadPrefix ?sa_BadPrefix ?ga_BadPrefix ?gg_BadPrefix ?nb_BadPrefix ?iC_BadPrefix ?kC_BadPrefix ?eC_BadPrefix ?vC_BadPrefix ?tC_BadPrefix ?hC_BadPrefix ?mB_BadPrefix ?su_BadPrefix ?cl_BadPrefix ?xL_BadTable ?sa_BadTable ?ga_BadTable ?gg_BadTable ?nb_BadTable ?iC_BadTable ?kC_BadTable ?eC_BadTable ?vC_BadTable ?tC_BadTable ?hC_BadTable ?mB_BadTable ?su_BadTable ?cl_BadTable ?xL_BadFaults ?sa_BadFaults ?ga_BadFaults ?gg_BadFaults ?nb_BadFaults ?iC_BadFaults ?kC_BadFaults ?eC_BadFaults ?vC_BadFaults ?tC_BadFaults ?hC_BadFaults ?mB_BadFaults ?su_BadFaults ?cl_BadFaults ?xL_BadWay ?sa_BadWay ?ga_BadWay ?gg_BadWay ?nb_BadWay ?iC_BadWay ?kC_BadWay ?eC_BadWay ?vC_BadWay ?tC_BadWay ?hC_BadWay ?mB_BadWay ?su_BadWay ?cl_BadWay ?xL_BadRouter ?sa_BadRouter ?ga_BadRouter ?gg_BadRouter ?nb_BadRouter ?iC_BadRouter ?kC_BadRouter ?eC_BadRouter ?vC_BadRouter ?tC_BadRouter ?hC_BadRouter ?mB_BadRouter ?su_BadRouter ?cl_BadRouter ?xL_BadLink ?sa_BadLink ?ga_BadLink ?gg_BadLink ?nb_BadLink ?iC_BadLink ?kC_BadLink ?eC_BadLink ?vC_BadLink ?tC_BadLink ?hC_BadLink ?mB_BadLink ?su_BadLink ?cl_BadLink ?xL_BadCost ?sa_BadCost ?ga_BadCost ?gg_BadCost ?nb_BadCost ?iC_BadCost ?kC_BadCost ?eC_BadCost ?vC_BadCost ?tC_BadCost ?hC_BadCost ?mB_BadCost ?su_BadCost ?cl_BadCost ?xL_BadEvent ?sa_BadEvent ?ga_BadEvent ?gg_BadEvent ?nb_BadEvent ?iC_BadEvent ?kC_BadEvent ?eC_BadEvent ?vC_BadEvent ?tC_BadEvent ?hC_BadEvent ?mB_BadEvent ?su_BadEvent ?cl_BadEvent ?xL_BadState ?sa_BadState ?ga_BadState ?gg_BadState ?nb_BadState ?iC_BadState ?kC_BadState ?eC_BadState ?vC_BadState ?tC_BadState ?hC_BadState ?mB_BadState ?su_BadState ?cl_BadState ?xL_BadNet ?sa_BadNet ?ga_BadNet ?gg_BadNet ?nb_BadNet ?iC_BadNet ?kC_BadNet ?eC_BadNet ?vC_BadNet ?tC_BadNet ?hC_BadNet ?mB_BadNet ?su_BadNet ?cl_BadNet ?xL_BadPacket ?sa_BadPacket ?ga_BadPacket ?gg_BadPacket ?nb_BadPacket ?iC_BadPacket ?kC_BadPacket ?eC_BadPacket ?vC_BadPacket ?tC_BadPacket ?hC_BadPacket ?mB_BadPacket ?su_BadPacket ?cl_BadPacket ?xL_BadRule ?sa_BadRule ?ga_BadRule ?gg_BadRule ?nb_BadRule ?iC_BadRule ?kC_BadRule ?eC_BadRule ?vC_BadRule ?tC_BadRule ?hC_BadRule ?mB_BadRule ?su_BadRule ?cl_BadRule ?xL_NoMessage ?sa_NoMessage ?ga_NoMessage ?gg_NoMessage ?nb_NoMessage ?iC_NoMessage ?kC_NoMessage ?eC_NoMessage ?vC_NoMessage ?tC_NoMessage ?hC_NoMessage ?mB_NoMessage ?su_NoMessage ?cl_NoMessage ?xL_BadTie ?sa_BadTie ?ga_BadTie ?gg_BadTie ?nb_BadTie ?iC_BadTie ?kC_BadTie ?eC_BadTie ?vC_BadTie ?tC_BadTie ?hC_BadTie ?mB_BadTie ?su_BadTie ?cl_BadTie ?xL_BadOwner ?sa_BadOwner ?ga_BadOwner ?gg_BadOwner ?nb_BadOwner ?iC_BadOwner ?kC_BadOwner ?eC_BadOwner ?vC_BadOwner ?tC_BadOwner ?hC_BadOwner ?mB_BadOwner ?su_BadOwner ?cl_BadOwner ?xL_BadWish ?sa_BadWish ?ga_BadWish ?gg_BadWish ?nb_BadWish ?iC_BadWish ?kC_BadWish ?eC_BadWish ?vC_BadWish ?tC_BadWish ?hC_BadWish ?mB_BadWish ?su_BadWish ?cl_BadWish ?xL_BadChange ?sa_BadChange ?ga_BadChange ?gg_BadChange ?nb_BadChange ?iC_BadChange ?kC_BadChange ?eC_BadChange ?vC_BadChange ?tC_BadChange ?hC_BadChange ?mB_BadChange ?su_BadChange ?cl_BadChange ?xL_BadArea ?sa_BadArea ?ga_BadArea ?gg_BadArea ?nb_BadArea ?iC_BadArea ?kC_BadArea ?eC_BadArea ?vC_BadArea ?tC_BadArea ?hC_BadArea ?mB_BadArea ?su_BadArea ?cl_BadArea ?xL_BadRange ?sa_BadRange ?ga_BadRange ?gg_BadRange ?nb_BadRange ?iC_BadRange ?kC_BadRange ?eC_BadRange ?vC_BadRange ?tC_BadRange ?hC_BadRange ?mB_BadRange ?su_BadRange ?cl_BadRange ?xL_BadDomain ?sa_BadDomain ?ga_BadDomain ?gg_BadDomain ?nb_BadDomain ?iC_BadDomain ?kC_BadDomain ?eC_BadDomain ?vC_BadDomain ?tC_BadDomain ?hC_BadDomain ?mB_BadDomain ?su_BadDomain ?cl_BadDomain ?xL_BadHanding ?sa_BadHanding ?ga_BadHanding ?gg_BadHanding ?nb_BadHanding ?iC_BadHanding ?kC_BadHanding ?eC_BadHanding ?vC_BadHanding ?tC_BadHanding ?hC_BadHanding ?mB_BadHanding ?su_BadHanding ?cl_BadHanding ?xL_BadTeller ?sa_BadTeller ?ga_BadTeller ?gg_BadTeller ?nb_BadTeller ?iC_BadTeller ?kC_BadTeller ?eC_BadTeller ?vC_BadTeller ?tC_BadTeller ?hC_BadTeller ?mB_BadTeller ?su_BadTeller ?cl_BadTeller ?xL_BadLine ?sa_BadLine ?ga_BadLine ?gg_BadLine ?nb_BadLine ?iC_BadLine ?kC_BadLine ?eC_BadLine ?vC_BadLine ?tC_BadLine ?hC_BadLine ?mB_BadLine ?su_BadLine ?cl_BadLine ?xL_BadDemand ?sa_BadDemand ?ga_BadDemand ?gg_BadDemand ?nb_BadDemand ?iC_BadDemand ?kC_BadDemand ?eC_BadDemand ?vC_BadDemand ?tC_BadDemand ?hC_BadDemand ?mB_BadDemand ?su_BadDemand ?cl_BadDemand ?el ?ec ?eh ?ev ?ef ?ecl ?ecB ?esup ?etp ?etop ?etI ?ege ?etk ?nd ?aF ?mk1 ?mk2 ?mk3 ?mk4 ?lI ?cI ?kI ?a0 ?l0 ?c0 ?k0 ?a1 ?l1 ?c1 ?k1 ?a2 ?l2 ?c2 ?k2 ?a3 ?l3 ?c3 ?k3 ?a4 ?l4 ?c4 ?k4 ?a5 ?l5 ?c5 ?k5 ?z_len ?z_min ?z_range ?z_abs ?z_int ?z_isinstance ?z_ValueError ?z_bool ?m_MOST_ROUTERS
    (case a_NetError => k_is)
    (case a_OutOfRange => k_is)
    (case a_TooMany => k_is)
    (case a_BadPrefix => k_is)
    (case a_BadTable => k_is)
    (case a_BadFaults => k_is)
    (case a_BadWay => k_is)
    (case a_BadRouter => k_is)
    (case a_BadLink => k_is)
    (case a_BadCost => k_is)
    (case a_BadEvent => k_is)
    (case a_BadState => k_is)
    (case a_BadNet => k_is)
    (case a_BadPacket => k_is)
    (case a_BadRule => k_is)
    (case a_NoMessage => k_is)
    (case a_BadTie => k_is)
    (case a_BadOwner => k_is)
    (case a_BadWish => k_is)
    (case a_BadChange => k_is)
    (case a_BadArea => k_is)
    (case a_BadRange => k_is)
    (case a_BadDomain => k_is)
    (case a_BadHanding => k_is)
    (case a_BadTeller => k_is)
    (case a_BadLine => k_is)
    (case a_BadDemand => k_is)
    (case xL_NetError => k_is)
    (case sa_NetError => k_is)
    (case ga_NetError => k_is)
    (case gg_NetError => k_is)
    (case nb_NetError => k_is)
    (case iC_NetError => k_is)
    (case kC_NetError => k_is)
    (case eC_NetError => k_is)
    (case vC_NetError => k_is)
    (case tC_NetError => k_is)
    (case hC_NetError => k_is)
    (case mB_NetError => first | k_is | ks_is | kernel_rfl | rfl)
    (case su_NetError => first | k_is | ks_is | kernel_rfl | rfl)
    (case cl_NetError => first | k_is | ks_is | kernel_rfl | rfl)
    (case xL_OutOfRange => k_is)
    (case sa_OutOfRange => k_is)
    (case ga_OutOfRange => k_is)
    (case gg_OutOfRange => k_is)
    (case nb_OutOfRange => k_is)
    (case iC_OutOfRange => k_is)
    (case kC_OutOfRange => k_is)
    (case eC_OutOfRange => k_is)
    (case vC_OutOfRange => k_is)
    (case tC_OutOfRange => k_is)
    (case hC_OutOfRange => k_is)
    (case mB_OutOfRange => first | k_is | ks_is | kernel_rfl | rfl)
    (case su_OutOfRange => first | k_is | ks_is | kernel_rfl | rfl)
    (case cl_OutOfRange => first | k_is | ks_is | kernel_rfl | rfl)
    (case xL_TooMany => k_is)
    (case sa_TooMany => k_is)
    (case ga_TooMany => k_is)
    (case gg_TooMany => k_is)
    (case nb_TooMany => k_is)
    (case iC_TooMany => k_is)
    (case kC_TooMany => k_is)
    (case eC_TooMany => k_is)
    (case vC_TooMany => k_is)
    (case tC_TooMany => k_is)
    (case hC_TooMany => k_is)
    (case mB_TooMany => first | k_is | ks_is | kernel_rfl | rfl)
    (case su_TooMany => first | k_is | ks_is | kernel_rfl | rfl)
    (case cl_TooMany => first | k_is | ks_is | kernel_rfl | rfl)
    (case xL_BadPrefix => k_is)
    (case sa_BadPrefix => k_is)
    (case ga_BadPrefix => k_is)
    (case gg_BadPrefix => k_is)
    (case nb_BadPrefix => k_is)
    (case iC_BadPrefix => k_is)
    (case kC_BadPrefix => k_is)
    (case eC_BadPrefix => k_is)
    (case vC_BadPrefix => k_is)
    (case tC_BadPrefix => k_is)
    (case hC_BadPrefix => k_is)
    (case mB_BadPrefix => first | k_is | ks_is | kernel_rfl | rfl)
    (case su_BadPrefix => first | k_is | ks_is | kernel_rfl | rfl)
    (case cl_BadPrefix => first | k_is | ks_is | kernel_rfl | rfl)
    (case xL_BadTable => k_is)
    (case sa_BadTable => k_is)
    (case ga_BadTable => k_is)
    (case gg_BadTable => k_is)
    (case nb_BadTable => k_is)
    (case iC_BadTable => k_is)
    (case kC_BadTable => k_is)
    (case eC_BadTable => k_is)
    (case vC_BadTable => k_is)
    (case tC_BadTable => k_is)
    (case hC_BadTable => k_is)
    (case mB_BadTable => first | k_is | ks_is | kernel_rfl | rfl)
    (case su_BadTable => first | k_is | ks_is | kernel_rfl | rfl)
    (case cl_BadTable => first | k_is | ks_is | kernel_rfl | rfl)
    (case xL_BadFaults => k_is)
    (case sa_BadFaults => k_is)
    (case ga_BadFaults => k_is)
    (case gg_BadFaults => k_is)
    (case nb_BadFaults => k_is)
    (case iC_BadFaults => k_is)
    (case kC_BadFaults => k_is)
    (case eC_BadFaults => k_is)
    (case vC_BadFaults => k_is)
    (case tC_BadFaults => k_is)
    (case hC_BadFaults => k_is)
    (case mB_BadFaults => first | k_is | ks_is | kernel_rfl | rfl)
    (case su_BadFaults => first | k_is | ks_is | kernel_rfl | rfl)
    (case cl_BadFaults => first | k_is | ks_is | kernel_rfl | rfl)
    (case xL_BadWay => k_is)
    (case sa_BadWay => k_is)
    (case ga_BadWay => k_is)
    (case gg_BadWay => k_is)
    (case nb_BadWay => k_is)
    (case iC_BadWay => k_is)
    (case kC_BadWay => k_is)
    (case eC_BadWay => k_is)
    (case vC_BadWay => k_is)
    (case tC_BadWay => k_is)
    (case hC_BadWay => k_is)
    (case mB_BadWay => first | k_is | ks_is | kernel_rfl | rfl)
    (case su_BadWay => first | k_is | ks_is | kernel_rfl | rfl)
    (case cl_BadWay => first | k_is | ks_is | kernel_rfl | rfl)
    (case xL_BadRouter => k_is)
    (case sa_BadRouter => k_is)
    (case ga_BadRouter => k_is)
    (case gg_BadRouter => k_is)
    (case nb_BadRouter => k_is)
    (case iC_BadRouter => k_is)
    (case kC_BadRouter => k_is)
    (case eC_BadRouter => k_is)
    (case vC_BadRouter => k_is)
    (case tC_BadRouter => k_is)
    (case hC_BadRouter => k_is)
    (case mB_BadRouter => first | k_is | ks_is | kernel_rfl | rfl)
    (case su_BadRouter => first | k_is | ks_is | kernel_rfl | rfl)
    (case cl_BadRouter => first | k_is | ks_is | kernel_rfl | rfl)
    (case xL_BadLink => k_is)
    (case sa_BadLink => k_is)
    (case ga_BadLink => k_is)
    (case gg_BadLink => k_is)
    (case nb_BadLink => k_is)
    (case iC_BadLink => k_is)
    (case kC_BadLink => k_is)
    (case eC_BadLink => k_is)
    (case vC_BadLink => k_is)
    (case tC_BadLink => k_is)
    (case hC_BadLink => k_is)
    (case mB_BadLink => first | k_is | ks_is | kernel_rfl | rfl)
    (case su_BadLink => first | k_is | ks_is | kernel_rfl | rfl)
    (case cl_BadLink => first | k_is | ks_is | kernel_rfl | rfl)
    (case xL_BadCost => k_is)
    (case sa_BadCost => k_is)
    (case ga_BadCost => k_is)
    (case gg_BadCost => k_is)
    (case nb_BadCost => k_is)
    (case iC_BadCost => k_is)
    (case kC_BadCost => k_is)
    (case eC_BadCost => k_is)
    (case vC_BadCost => k_is)
    (case tC_BadCost => k_is)
    (case hC_BadCost => k_is)
    (case mB_BadCost => first | k_is | ks_is | kernel_rfl | rfl)
    (case su_BadCost => first | k_is | ks_is | kernel_rfl | rfl)
    (case cl_BadCost => first | k_is | ks_is | kernel_rfl | rfl)
    (case xL_BadEvent => k_is)
    (case sa_BadEvent => k_is)
    (case ga_BadEvent => k_is)
    (case gg_BadEvent => k_is)
    (case nb_BadEvent => k_is)
    (case iC_BadEvent => k_is)
    (case kC_BadEvent => k_is)
    (case eC_BadEvent => k_is)
    (case vC_BadEvent => k_is)
    (case tC_BadEvent => k_is)
    (case hC_BadEvent => k_is)
    (case mB_BadEvent => first | k_is | ks_is | kernel_rfl | rfl)
    (case su_BadEvent => first | k_is | ks_is | kernel_rfl | rfl)
    (case cl_BadEvent => first | k_is | ks_is | kernel_rfl | rfl)
    (case xL_BadState => k_is)
    (case sa_BadState => k_is)
    (case ga_BadState => k_is)
    (case gg_BadState => k_is)
    (case nb_BadState => k_is)
    (case iC_BadState => k_is)
    (case kC_BadState => k_is)
    (case eC_BadState => k_is)
    (case vC_BadState => k_is)
    (case tC_BadState => k_is)
    (case hC_BadState => k_is)
    (case mB_BadState => first | k_is | ks_is | kernel_rfl | rfl)
    (case su_BadState => first | k_is | ks_is | kernel_rfl | rfl)
    (case cl_BadState => first | k_is | ks_is | kernel_rfl | rfl)
    (case xL_BadNet => k_is)
    (case sa_BadNet => k_is)
    (case ga_BadNet => k_is)
    (case gg_BadNet => k_is)
    (case nb_BadNet => k_is)
    (case iC_BadNet => k_is)
    (case kC_BadNet => k_is)
    (case eC_BadNet => k_is)
    (case vC_BadNet => k_is)
    (case tC_BadNet => k_is)
    (case hC_BadNet => k_is)
    (case mB_BadNet => first | k_is | ks_is | kernel_rfl | rfl)
    (case su_BadNet => first | k_is | ks_is | kernel_rfl | rfl)
    (case cl_BadNet => first | k_is | ks_is | kernel_rfl | rfl)
    (case xL_BadPacket => k_is)
    (case sa_BadPacket => k_is)
    (case ga_BadPacket => k_is)
    (case gg_BadPacket => k_is)
    (case nb_BadPacket => k_is)
    (case iC_BadPacket => k_is)
    (case kC_BadPacket => k_is)
    (case eC_BadPacket => k_is)
    (case vC_BadPacket => k_is)
    (case tC_BadPacket => k_is)
    (case hC_BadPacket => k_is)
    (case mB_BadPacket => first | k_is | ks_is | kernel_rfl | rfl)
    (case su_BadPacket => first | k_is | ks_is | kernel_rfl | rfl)
    (case cl_BadPacket => first | k_is | ks_is | kernel_rfl | rfl)
    (case xL_BadRule => k_is)
    (case sa_BadRule => k_is)
    (case ga_BadRule => k_is)
    (case gg_BadRule => k_is)
    (case nb_BadRule => k_is)
    (case iC_BadRule => k_is)
    (case kC_BadRule => k_is)
    (case eC_BadRule => k_is)
    (case vC_BadRule => k_is)
    (case tC_BadRule => k_is)
    (case hC_BadRule => k_is)
    (case mB_BadRule => first | k_is | ks_is | kernel_rfl | rfl)
    (case su_BadRule => first | k_is | ks_is | kernel_rfl | rfl)
    (case cl_BadRule => first | k_is | ks_is | kernel_rfl | rfl)
    (case xL_NoMessage => k_is)
    (case sa_NoMessage => k_is)
    (case ga_NoMessage => k_is)
    (case gg_NoMessage => k_is)
    (case nb_NoMessage => k_is)
    (case iC_NoMessage => k_is)
    (case kC_NoMessage => k_is)
    (case eC_NoMessage => k_is)
    (case vC_NoMessage => k_is)
    (case tC_NoMessage => k_is)
    (case hC_NoMessage => k_is)
    (case mB_NoMessage => first | k_is | ks_is | kernel_rfl | rfl)
    (case su_NoMessage => first | k_is | ks_is | kernel_rfl | rfl)
    (case cl_NoMessage => first | k_is | ks_is | kernel_rfl | rfl)
    (case xL_BadTie => k_is)
    (case sa_BadTie => k_is)
    (case ga_BadTie => k_is)
    (case gg_BadTie => k_is)
    (case nb_BadTie => k_is)
    (case iC_BadTie => k_is)
    (case kC_BadTie => k_is)
    (case eC_BadTie => k_is)
    (case vC_BadTie => k_is)
    (case tC_BadTie => k_is)
    (case hC_BadTie => k_is)
    (case mB_BadTie => first | k_is | ks_is | kernel_rfl | rfl)
    (case su_BadTie => first | k_is | ks_is | kernel_rfl | rfl)
    (case cl_BadTie => first | k_is | ks_is | kernel_rfl | rfl)
    (case xL_BadOwner => k_is)
    (case sa_BadOwner => k_is)
    (case ga_BadOwner => k_is)
    (case gg_BadOwner => k_is)
    (case nb_BadOwner => k_is)
    (case iC_BadOwner => k_is)
    (case kC_BadOwner => k_is)
    (case eC_BadOwner => k_is)
    (case vC_BadOwner => k_is)
    (case tC_BadOwner => k_is)
    (case hC_BadOwner => k_is)
    (case mB_BadOwner => first | k_is | ks_is | kernel_rfl | rfl)
    (case su_BadOwner => first | k_is | ks_is | kernel_rfl | rfl)
    (case cl_BadOwner => first | k_is | ks_is | kernel_rfl | rfl)
    (case xL_BadWish => k_is)
    (case sa_BadWish => k_is)
    (case ga_BadWish => k_is)
    (case gg_BadWish => k_is)
    (case nb_BadWish => k_is)
    (case iC_BadWish => k_is)
    (case kC_BadWish => k_is)
    (case eC_BadWish => k_is)
    (case vC_BadWish => k_is)
    (case tC_BadWish => k_is)
    (case hC_BadWish => k_is)
    (case mB_BadWish => first | k_is | ks_is | kernel_rfl | rfl)
    (case su_BadWish => first | k_is | ks_is | kernel_rfl | rfl)
    (case cl_BadWish => first | k_is | ks_is | kernel_rfl | rfl)
    (case xL_BadChange => k_is)
    (case sa_BadChange => k_is)
    (case ga_BadChange => k_is)
    (case gg_BadChange => k_is)
    (case nb_BadChange => k_is)
    (case iC_BadChange => k_is)
    (case kC_BadChange => k_is)
    (case eC_BadChange => k_is)
    (case vC_BadChange => k_is)
    (case tC_BadChange => k_is)
    (case hC_BadChange => k_is)
    (case mB_BadChange => first | k_is | ks_is | kernel_rfl | rfl)
    (case su_BadChange => first | k_is | ks_is | kernel_rfl | rfl)
    (case cl_BadChange => first | k_is | ks_is | kernel_rfl | rfl)
    (case xL_BadArea => k_is)
    (case sa_BadArea => k_is)
    (case ga_BadArea => k_is)
    (case gg_BadArea => k_is)
    (case nb_BadArea => k_is)
    (case iC_BadArea => k_is)
    (case kC_BadArea => k_is)
    (case eC_BadArea => k_is)
    (case vC_BadArea => k_is)
    (case tC_BadArea => k_is)
    (case hC_BadArea => k_is)
    (case mB_BadArea => first | k_is | ks_is | kernel_rfl | rfl)
    (case su_BadArea => first | k_is | ks_is | kernel_rfl | rfl)
    (case cl_BadArea => first | k_is | ks_is | kernel_rfl | rfl)
    (case xL_BadRange => k_is)
    (case sa_BadRange => k_is)
    (case ga_BadRange => k_is)
    (case gg_BadRange => k_is)
    (case nb_BadRange => k_is)
    (case iC_BadRange => k_is)
    (case kC_BadRange => k_is)
    (case eC_BadRange => k_is)
    (case vC_BadRange => k_is)
    (case tC_BadRange => k_is)
    (case hC_BadRange => k_is)
    (case mB_BadRange => first | k_is | ks_is | kernel_rfl | rfl)
    (case su_BadRange => first | k_is | ks_is | kernel_rfl | rfl)
    (case cl_BadRange => first | k_is | ks_is | kernel_rfl | rfl)
    (case xL_BadDomain => k_is)
    (case sa_BadDomain => k_is)
    (case ga_BadDomain => k_is)
    (case gg_BadDomain => k_is)
    (case nb_BadDomain => k_is)
    (case iC_BadDomain => k_is)
    (case kC_BadDomain => k_is)
    (case eC_BadDomain => k_is)
    (case vC_BadDomain => k_is)
    (case tC_BadDomain => k_is)
    (case hC_BadDomain => k_is)
    (case mB_BadDomain => first | k_is | ks_is | kernel_rfl | rfl)
    (case su_BadDomain => first | k_is | ks_is | kernel_rfl | rfl)
    (case cl_BadDomain => first | k_is | ks_is | kernel_rfl | rfl)
    (case xL_BadHanding => k_is)
    (case sa_BadHanding => k_is)
    (case ga_BadHanding => k_is)
    (case gg_BadHanding => k_is)
    (case nb_BadHanding => k_is)
    (case iC_BadHanding => k_is)
    (case kC_BadHanding => k_is)
    (case eC_BadHanding => k_is)
    (case vC_BadHanding => k_is)
    (case tC_BadHanding => k_is)
    (case hC_BadHanding => k_is)
    (case mB_BadHanding => first | k_is | ks_is | kernel_rfl | rfl)
    (case su_BadHanding => first | k_is | ks_is | kernel_rfl | rfl)
    (case cl_BadHanding => first | k_is | ks_is | kernel_rfl | rfl)
    (case xL_BadTeller => k_is)
    (case sa_BadTeller => k_is)
    (case ga_BadTeller => k_is)
    (case gg_BadTeller => k_is)
    (case nb_BadTeller => k_is)
    (case iC_BadTeller => k_is)
    (case kC_BadTeller => k_is)
    (case eC_BadTeller => k_is)
    (case vC_BadTeller => k_is)
    (case tC_BadTeller => k_is)
    (case hC_BadTeller => k_is)
    (case mB_BadTeller => first | k_is | ks_is | kernel_rfl | rfl)
    (case su_BadTeller => first | k_is | ks_is | kernel_rfl | rfl)
    (case cl_BadTeller => first | k_is | ks_is | kernel_rfl | rfl)
    (case xL_BadLine => k_is)
    (case sa_BadLine => k_is)
    (case ga_BadLine => k_is)
    (case gg_BadLine => k_is)
    (case nb_BadLine => k_is)
    (case iC_BadLine => k_is)
    (case kC_BadLine => k_is)
    (case eC_BadLine => k_is)
    (case vC_BadLine => k_is)
    (case tC_BadLine => k_is)
    (case hC_BadLine => k_is)
    (case mB_BadLine => first | k_is | ks_is | kernel_rfl | rfl)
    (case su_BadLine => first | k_is | ks_is | kernel_rfl | rfl)
    (case cl_BadLine => first | k_is | ks_is | kernel_rfl | rfl)
    (case xL_BadDemand => k_is)
    (case sa_BadDemand => k_is)
    (case ga_BadDemand => k_is)
    (case gg_BadDemand => k_is)
    (case nb_BadDemand => k_is)
    (case iC_BadDemand => k_is)
    (case kC_BadDemand => k_is)
    (case eC_BadDemand => k_is)
    (case vC_BadDemand => k_is)
    (case tC_BadDemand => k_is)
    (case hC_BadDemand => k_is)
    (case mB_BadDemand => first | k_is | ks_is | kernel_rfl | rfl)
    (case su_BadDemand => first | k_is | ks_is | kernel_rfl | rfl)
    (case cl_BadDemand => first | k_is | ks_is | kernel_rfl | rfl)
    (case el => k_is)
    (case ec => k_is)
    (case eh => k_is)
    (case ev => rfl)
    (case ef => first | rfl | decide +kernel)
    (case ecl => k_is)
    (case ecB => k_is)
    (case esup => k_is)
    (case etp => k_is)
    (case etop => first | rfl | decide +kernel)
    (case etI => k_is)
    (case ege => first | k_is | ks_is | kernel_rfl | rfl)
    (case etk => first | k_is | ks_is | kernel_rfl | rfl)
    (case nd => decide)
    (case aF => k_is)
    (case mk1 => k_is)
    (case mk2 => k_is)
    (case mk3 => k_is)
    (case mk4 => k_is)
    (case lI => k_is)
    (case cI => k_is)
    (case kI => k_is)
    (case a0 => k_is)
    (case l0 => k_is)
    (case c0 => k_is)
    (case k0 => k_is)
    (case a1 => k_is)
    (case l1 => k_is)
    (case c1 => k_is)
    (case k1 => k_is)
    (case a2 => k_is)
    (case l2 => k_is)
    (case c2 => k_is)
    (case k2 => k_is)
    (case a3 => k_is)
    (case l3 => k_is)
    (case c3 => k_is)
    (case k3 => k_is)
    (case a4 => k_is)
    (case l4 => k_is)
    (case c4 => k_is)
    (case k4 => k_is)
    (case a5 => k_is)
    (case l5 => k_is)
    (case c5 => k_is)
    (case k5 => k_is)
    (case z_len => k_is)
    (case z_min => k_is)
    (case z_range => k_is)
    (case z_abs => k_is)
    (case z_int => k_is)
    (case z_isinstance => k_is)
    (case z_ValueError => k_is)
    (case z_bool => k_is)
    (case m_MOST_ROUTERS => k_is)
