import PyProof.Rows.All
import Wide.All
import OpenK.AllK
import Wide.FinOn
import HandS.Lambda
import HandS.ForMost
import HandS.ForExc
import HandS.Evl
import HandS.Walk
import HandS.Wide
import HandS.SlotsOwn
import HandS.TupAny
import HandS.TupMul
import HandS.Deep
import HandS.IsInst
import HandS.Conv
import HandS.Zip
import HandS.Style
import HandS.NoneIn
import HandS.Defaults
import PyProof.StrLawsRepr
import HandS.HeadEnd
import HandS.Head0
import HandS.Head1
import HandS.Head2
import HandS.HeadHook1
import HandS.HeadHook2
import HandS.HeadHook3
import HandS.HeadHook4
import HandS.EndTab
import KE.KExcSuper
import HandS.ExcInit
import HandS.WordsExc
import HandS.ExcValue
import KE.KExcIs
import HandS.Star
import HandS.TupSets
import HandS.Strs
import KE.KUnpackStar
import HandS.Dict
import PyProof.DictUpdate
import HandS.Text
import PySem.Challenge.RW_tiesums_k08_ties_put_in_and_taken_out
set_option Elab.async false
set_option linter.all false
set_option maxRecDepth 100000
set_option maxHeartbeats 2000000
/-! Z1: data by value, states, the relation of both with the hand layer's slots and heap -/
namespace Z
open PySem PySem.Spec PyProof.Rows L2

/-- python data as trees; cel: a list that changes, by its number in the store; obj: an object of the c-th class; scr: the script -/
inductive D where
  | non | bl (b : Bool) | int (i : Int) | str (x : Str)
  | tup (xs : List D) | lst (xs : List D) | dct (ks vs : List D)
  | cel (n : Nat) | obj (c : Nat) (fs : List D) | scr (ns : List Int) | ins (c : Nat) (fs : List D)
instance : Inhabited D := ⟨.non⟩
/-- what is being built: a list, a dict with keys that are texts and numbers, one with keys that are tuples of these -/
inductive BK where
  | l | k (ks : List Key) | t (ks : List (List Key))
def BK.ho : BK → List V → HO
  | .l, vs => .lst vs
  | .k ks, vs => .dK (ks.zip vs)
  | .t ks, vs => .dT (ks.zip vs)
theorem BK.ntbl : ∀ (k : BK) {vs : List V} {ps : Array Value}, k.ho vs ≠ .tbl ps
  | .l, _, _ => nofun
  | .k _, _, _ => nofun
  | .t _, _, _ => nofun
theorem BK.next : ∀ (k : BK) {vs : List V} {φ : Heap → Prop}, k.ho vs ≠ .ext φ
  | .l, _, _ => nofun
  | .k _, _, _ => nofun
  | .t _, _, _ => nofun
/-- a slot: not set, a value, a thing that is being built and that this slot alone holds -/
inductive Sl where
  | un | val (d : D) | box (k : BK) (xs : List D) | slf
abbrev Sl.bld (xs : List D) : Sl := .box .l xs
structure M where
  e : List Sl
  S : List (List D)
inductive R (α : Type) where
  | ok (a : α) (m : M) | exc (c : Nat) (d : D) (m : M) | bad
def R.bind {α β : Type} (r : R α) (k : α → M → R β) : R β := match r with
  | .ok a m => k a m
  | .exc c d m => .exc c d m
  | .bad => .bad
/-- an answer that may be missing -/
def ofO {α : Type} (o : Option α) (m : M) : R α := match o with
  | some a => .ok a m
  | none => .bad
abbrev Den := M → R D
abbrev DenL := M → R (List D)

/-- what is known for ever: frozen objects, the cells' addresses -/
structure Fz where
  G : Hp
  r : List Addr
structure Ext (z z' : Fz) : Prop where
  g : ∀ a o, z.G a = some o → z'.G a = some o
  r : ∃ t, z'.r = z.r ++ t
theorem Ext.refl (z : Fz) : Ext z z := ⟨fun _ _ h => h, [], (List.append_nil _).symm⟩
theorem Ext.trans {z z1 z2 : Fz} (a : Ext z z1) (b : Ext z1 z2) : Ext z z2 := by
  obtain ⟨s, hs⟩ := a.r
  obtain ⟨t, ht⟩ := b.r
  exact ⟨fun x o h => b.g x o (a.g x o h), s ++ t, by rw [ht, hs, List.append_assoc]⟩
theorem Ext.at {z z' : Fz} (e : Ext z z') {n : Nat} {a : Addr} (h : z.r[n]? = some a) : z'.r[n]? = some a := by
  obtain ⟨t, ht⟩ := e.r
  rw [ht, List.getElem?_append_left (List.getElem?_eq_some_iff.mp h).1]
  exact h
theorem Ext.mem {z z' : Fz} (e : Ext z z') {a : Addr} (h : a ∈ z.r) : a ∈ z'.r := by
  obtain ⟨t, ht⟩ := e.r
  rw [ht]
  exact List.mem_append_left _ h

/-- the classes of errors by number -/
structure Gm where
  K : PySem.W.Frag
  cls : Nat → Addr
  T : List (Addr × Str)
  /-- own classes: where they stand, their fields' names if they have no slots -/
  own : Nat → Addr × Option (List Str)
/-- a whole instance of an own class -/
def InsG (o : Addr × Option (List Str)) (G : Hp) (a dx : Addr) (vs : List V) : Prop := match o.2 with
  | none => G a = some (SlX.SlO a o.1 dx (vs.map some)) ∧ G dx = some (.xd [])
  | some ns => G a = some (.ins o.1 dx (ns.zip vs)) ∧ G dx = some (.own a)
theorem InsG.mono {o : Addr × Option (List Str)} {G G' : Hp} {a dx : Addr} {vs : List V} (e : ∀ a o, G a = some o → G' a = some o) (h : InsG o G a dx vs) : InsG o G' a dx vs := by
  unfold InsG at h ⊢
  split at h <;> exact ⟨e _ _ h.1, e _ _ h.2⟩
def keyD : Key → D
  | .inl i => .int i
  | .inr x => .str x
/-- an error object that is held as a value: its class, its own dict -/
def ErO (C dx a : Addr) : HO := .ext fun h => ∃ (oe : Obj) (vs : Array Value), h.get? a = some oe ∧ Zc (.ref C) (some dx) oe ∧ oe.data = .fields vs

mutual
def Rep (Γ : Gm) (z : Fz) : D → V → Prop
  | .non, v => v = .non
  | .bl b, v => v = .bl b
  | .int i, v => v = .int i
  | .str x, v => v = .str x
  | .tup ds, v => ∃ a vs, v = .ref a ∧ SqT Γ.K z.G a vs ∧ RepL Γ z ds vs
  | .lst ds, v => ∃ a vs, v = .ref a ∧ z.G a = some (.lst vs) ∧ RepL Γ z ds vs
  | .dct ks ds, v => ∃ a, v = .ref a ∧ ((∃ kvs, z.G a = some (.dK kvs) ∧ ks = kvs.map (fun p => keyD p.1) ∧ RepL Γ z ds (kvs.map (·.2))) ∨
    ∃ kvs, kvs ≠ [] ∧ z.G a = some (.dT kvs) ∧ ks = kvs.map (fun p => D.tup (p.1.map keyD)) ∧ RepL Γ z ds (kvs.map (·.2)))
  | .cel n, v => ∃ a, v = .ref a ∧ z.r[n]? = some a
  | .obj c ds, v => ∃ a dx u, v = .ref a ∧ z.G a = some (ErO (Γ.cls c) dx a) ∧ z.G dx = some (.xd [(("value" : Str), u)]) ∧ RepL Γ z ds [u]
  | .scr ns, v => ∃ a, v = .ref a ∧ SqL Γ.K z.G a (ns.map V.int)
  | .ins c ds, v => ∃ a dx vs, v = .ref a ∧ InsG (Γ.own c) z.G a dx vs ∧ RepL Γ z ds vs
def RepL (Γ : Gm) (z : Fz) : List D → List V → Prop
  | [], vs => vs = []
  | d :: ds, vs => ∃ v ws, vs = v :: ws ∧ Rep Γ z d v ∧ RepL Γ z ds ws
end

theorem sqT_mono {K : PySem.W.Frag} {G G' : Hp} {a : Addr} {vs : List V} (e : ∀ a o, G a = some o → G' a = some o) (h : SqT K G a vs) : SqT K G' a vs := Evl.ex_t e h
theorem sqL_mono {K : PySem.W.Frag} {G G' : Hp} {a : Addr} {vs : List V} (e : ∀ a o, G a = some o → G' a = some o) (h : SqL K G a vs) : SqL K G' a vs := Evl.ex_l e h

mutual
theorem Rep.mono {Γ : Gm} {z z' : Fz} (e : Ext z z') : ∀ (d : D) {v : V}, Rep Γ z d v → Rep Γ z' d v
  | .non, _, h => by simp only [Rep] at h ⊢; exact h
  | .bl _, _, h => by simp only [Rep] at h ⊢; exact h
  | .int _, _, h => by simp only [Rep] at h ⊢; exact h
  | .str _, _, h => by simp only [Rep] at h ⊢; exact h
  | .tup ds, _, h => by
    simp only [Rep] at h ⊢
    obtain ⟨a, vs, h1, h2, h3⟩ := h
    exact ⟨a, vs, h1, sqT_mono e.g h2, RepL.mono e ds h3⟩
  | .lst ds, _, h => by
    simp only [Rep] at h ⊢
    obtain ⟨a, vs, h1, h2, h3⟩ := h
    exact ⟨a, vs, h1, e.g _ _ h2, RepL.mono e ds h3⟩
  | .dct ks ds, _, h => by
    simp only [Rep] at h ⊢
    obtain ⟨a, h1, h | h⟩ := h
    · obtain ⟨kvs, h2, h3, h4⟩ := h
      exact ⟨a, h1, .inl ⟨kvs, e.g _ _ h2, h3, RepL.mono e ds h4⟩⟩
    · obtain ⟨kvs, h0, h2, h3, h4⟩ := h
      exact ⟨a, h1, .inr ⟨kvs, h0, e.g _ _ h2, h3, RepL.mono e ds h4⟩⟩
  | .cel n, _, h => by
    simp only [Rep] at h ⊢
    obtain ⟨a, h1, h2⟩ := h
    exact ⟨a, h1, e.at h2⟩
  | .obj c ds, _, h => by
    simp only [Rep] at h ⊢
    obtain ⟨a, dx, u, h1, h2, h3, h4⟩ := h
    exact ⟨a, dx, u, h1, e.g _ _ h2, e.g _ _ h3, RepL.mono e ds h4⟩
  | .scr ns, _, h => by
    simp only [Rep] at h ⊢
    obtain ⟨a, h1, h2⟩ := h
    exact ⟨a, h1, sqL_mono e.g h2⟩
  | .ins c ds, _, h => by
    simp only [Rep] at h ⊢
    obtain ⟨a, dx, vs, h1, h2, h3⟩ := h
    exact ⟨a, dx, vs, h1, h2.mono e.g, RepL.mono e ds h3⟩
theorem RepL.mono {Γ : Gm} {z z' : Fz} (e : Ext z z') : ∀ (ds : List D) {vs : List V}, RepL Γ z ds vs → RepL Γ z' ds vs
  | [], _, h => by simp only [RepL] at h ⊢; exact h
  | d :: ds, _, h => by
    simp only [RepL] at h ⊢
    obtain ⟨v, ws, h1, h2, h3⟩ := h
    exact ⟨v, ws, h1, Rep.mono e d h2, RepL.mono e ds h3⟩
end

section
variable {Γ : Gm} {z : Fz}
theorem RepL.nil : RepL Γ z [] [] := by simp only [RepL]
theorem RepL.cons {d : D} {ds : List D} {v : V} {vs : List V} (h : Rep Γ z d v) (t : RepL Γ z ds vs) : RepL Γ z (d :: ds) (v :: vs) := by
  simp only [RepL]
  exact ⟨v, vs, rfl, h, t⟩
theorem RepL.length : ∀ {ds : List D} {vs : List V}, RepL Γ z ds vs → ds.length = vs.length
  | [], _, h => by simp only [RepL] at h; subst h; rfl
  | d :: ds, _, h => by
    simp only [RepL] at h
    obtain ⟨v, ws, rfl, _, h3⟩ := h
    simp only [List.length_cons, RepL.length h3]
theorem RepL.get : ∀ {ds : List D} {vs : List V} {i : Nat} {d : D}, RepL Γ z ds vs → ds[i]? = some d → ∃ v, vs[i]? = some v ∧ Rep Γ z d v
  | [], _, _, _, _, e => by simp at e
  | d :: ds, _, 0, _, h, e => by
    simp only [RepL] at h
    obtain ⟨v, ws, rfl, h2, _⟩ := h
    simp at e
    subst e
    exact ⟨v, rfl, h2⟩
  | d :: ds, _, i + 1, _, h, e => by
    simp only [RepL] at h
    obtain ⟨v, ws, rfl, _, h3⟩ := h
    obtain ⟨u, h4, h5⟩ := RepL.get (i := i) h3 (by simpa using e)
    exact ⟨u, by simpa using h4, h5⟩
theorem RepL.append : ∀ {ds es : List D} {vs ws : List V}, RepL Γ z ds vs → RepL Γ z es ws → RepL Γ z (ds ++ es) (vs ++ ws)
  | [], _, _, _, h, k => by simp only [RepL] at h; subst h; exact k
  | d :: ds, _, _, _, h, k => by
    simp only [RepL] at h
    obtain ⟨v, us, rfl, h2, h3⟩ := h
    exact .cons h2 (h3.append k)
theorem RepL.snoc {ds : List D} {d : D} {vs : List V} {v : V} (h : RepL Γ z ds vs) (k : Rep Γ z d v) : RepL Γ z (ds ++ [d]) (vs ++ [v]) := h.append (.cons k .nil)
theorem RepL.take : ∀ {ds : List D} {vs : List V} (n : Nat), RepL Γ z ds vs → RepL Γ z (ds.take n) (vs.take n)
  | _, _, 0, _ => by simp only [List.take_zero]; exact .nil
  | [], _, n + 1, h => by simp only [RepL] at h; subst h; exact .nil
  | d :: ds, _, n + 1, h => by
    simp only [RepL] at h
    obtain ⟨v, us, rfl, h2, h3⟩ := h
    exact .cons h2 (h3.take n)
theorem RepL.drop : ∀ {ds : List D} {vs : List V} (n : Nat), RepL Γ z ds vs → RepL Γ z (ds.drop n) (vs.drop n)
  | _, _, 0, h => h
  | [], _, n + 1, h => by simp only [RepL] at h; subst h; exact .nil
  | d :: ds, _, n + 1, h => by
    simp only [RepL] at h
    obtain ⟨v, us, rfl, h2, h3⟩ := h
    exact h3.drop n
theorem RepL.set : ∀ {ds : List D} {vs : List V} {d : D} {v : V} (n : Nat), RepL Γ z ds vs → Rep Γ z d v → RepL Γ z (ds.set n d) (vs.set n v)
  | [], _, _, _, _, h, _ => by simp only [RepL] at h; subst h; exact .nil
  | d :: ds, _, _, _, 0, h, k => by
    simp only [RepL] at h
    obtain ⟨v, us, rfl, h2, h3⟩ := h
    exact .cons k h3
  | d :: ds, _, _, _, n + 1, h, k => by
    simp only [RepL] at h
    obtain ⟨v, us, rfl, h2, h3⟩ := h
    exact .cons h2 (h3.set n k)
theorem RepL.one {d : D} {vs : List V} (h : RepL Γ z [d] vs) : ∃ v, vs = [v] ∧ Rep Γ z d v := by
  simp only [RepL] at h
  obtain ⟨v, ws, rfl, h2, rfl⟩ := h
  exact ⟨v, rfl, h2⟩
theorem RepL.two {d e : D} {vs : List V} (h : RepL Γ z [d, e] vs) : ∃ v u, vs = [v, u] ∧ Rep Γ z d v ∧ Rep Γ z e u := by
  simp only [RepL] at h
  obtain ⟨v, ws, rfl, h2, u, us, rfl, h3, rfl⟩ := h
  exact ⟨v, u, rfl, h2, h3⟩
theorem RepL.ints : ∀ (ns : List Int), RepL Γ z (ns.map D.int) (ns.map V.int)
  | [] => .nil
  | n :: ns => .cons (by simp only [Rep]) (RepL.ints ns)
end

theorem nodupIx {α : Type} : ∀ {l : List α} {i j : Nat} {x : α}, l.Nodup → l[i]? = some x → l[j]? = some x → i = j
  | [], _, _, _, _, h, _ => by simp at h
  | a :: l, 0, 0, _, _, _, _ => rfl
  | a :: l, 0, j + 1, x, hn, h1, h2 => by
    simp at h1
    subst h1
    exact absurd (List.mem_of_getElem? (by simpa using h2)) (List.nodup_cons.mp hn).1
  | a :: l, i + 1, 0, x, hn, h1, h2 => by
    simp at h2
    subst h2
    exact absurd (List.mem_of_getElem? (by simpa using h1)) (List.nodup_cons.mp hn).1
  | a :: l, i + 1, j + 1, x, hn, h1, h2 => by
    exact congrArg (· + 1) (nodupIx (x := x) (List.nodup_cons.mp hn).2 (by simpa using h1) (by simpa using h2))
/-- a frame's entry: the heap, what was known -/
structure Bs where
  H : Hp
  z : Fz
  /-- what of the entry's heap may change besides the cells -/
  x : List Addr
  /-- the object that is being made -/
  s : Addr
  /-- a fresh dict is returned -/
  fr : Bool
def SlOk (Γ : Gm) (B : Bs) (z : Fz) (H : Hp) : Sl → Option V → Prop
  | .un, _ => True
  | .val d, w => ∃ v, w = some v ∧ Rep Γ z d v
  | .box k xs, w => ∃ a vs, w = some (.ref a) ∧ H a = some (k.ho vs) ∧ RepL Γ z xs vs ∧ z.G a = none ∧ a ∉ z.r ∧ (B.H a = none ∨ a ∈ B.x)
  | .slf, w => w = some (.ref B.s)
/-- what stands of store and frozen things, without slots -/
structure Rf (Γ : Gm) (z : Fz) (S : List (List D)) (H : Hp) : Prop where
  sub : ∀ a o, z.G a = some o → H a = some o
  slen : S.length = z.r.length
  sto : ∀ (n : Nat) (xs : List D) (a : Addr), S[n]? = some xs → z.r[n]? = some a → ∃ vs, H a = some (.lst vs) ∧ RepL Γ z xs vs
  out : ∀ a ∈ z.r, z.G a = none
  rnd : z.r.Nodup
  tab : LamX.Tabs Γ.T H
  tg : ∀ p ∈ Γ.T, z.G p.1 = none
/-- since the entry: what stood stands but the cells; what is new was free -/
structure Sn (x : List Addr) (z z' : Fz) (H H' : Hp) : Prop where
  ext : Ext z z'
  keep : ∀ a o, H a = some o → a ∉ z.r → a ∉ x → (∀ ps, o ≠ .tbl ps) → H' a = some o
  live : ∀ a o, H a = some o → ∃ o', H' a = some o'
  gnew : ∀ a o, z'.G a = some o → z.G a = some o ∨ H a = none ∨ a ∈ x
  rnew : ∀ a ∈ z'.r, a ∈ z.r ∨ H a = none ∨ a ∈ x
theorem Sn.refl (x : List Addr) (z : Fz) (H : Hp) : Sn x z z H H := ⟨Ext.refl z, fun _ _ h _ _ _ => h, fun _ o h => ⟨o, h⟩, fun _ _ h => .inl h, fun _ h => .inl h⟩
theorem Sn.back {x : List Addr} {z z' : Fz} {H H' : Hp} (a : Sn x z z' H H') {y : Addr} (q : H' y = none) : H y = none := by
  cases e : H y with
  | none => rfl
  | some u => obtain ⟨o, h⟩ := a.live y u e; rw [h] at q; cases q
/-- two steps: what may change in the second one may change in the first one, or was free -/
theorem Sn.trans {x y : List Addr} {z z1 z2 : Fz} {H H1 H2 : Hp} (a : Sn x z z1 H H1) (b : Sn y z1 z2 H1 H2) (hy : ∀ c ∈ y, H c = none ∨ c ∈ x) : Sn x z z2 H H2 where
  ext := a.ext.trans b.ext
  keep := fun c o h hn hx ht => b.keep c o (a.keep c o h hn hx ht) (fun hm => by
    rcases a.rnew c hm with q | q | q
    · exact hn q
    · rw [h] at q; cases q
    · exact hx q) (fun hm => by
    rcases hy c hm with q | q
    · rw [h] at q; cases q
    · exact hx q) ht
  live := fun c o h => let ⟨o1, h1⟩ := a.live c o h; b.live c o1 h1
  gnew := fun c o h => by
    rcases b.gnew c o h with q | q | q
    · exact a.gnew c o q
    · exact .inr (.inl (a.back q))
    · exact .inr (hy c q)
  rnew := fun c h => by
    rcases b.rnew c h with q | q | q
    · exact a.rnew c q
    · exact .inr (.inl (a.back q))
    · exact .inr (hy c q)
theorem Sn.trans0 {x : List Addr} {z z1 z2 : Fz} {H H1 H2 : Hp} (a : Sn x z z1 H H1) (b : Sn [] z1 z2 H1 H2) : Sn x z z2 H H2 := a.trans b (fun _ h => nomatch h)
structure Rl (Γ : Gm) (B : Bs) (z : Fz) (m : M) (σ : L2.St) (H : Hp) : Prop where
  rf : Rf Γ z m.S H
  sn : Sn B.x B.z z B.H H
  len : m.e.length = σ.length
  slot : ∀ (i : Nat) (s : Sl) (w : Option V), m.e[i]? = some s → σ[i]? = some w → SlOk Γ B z H s w
  apart : ∀ (i j : Nat) (ka kb : BK) (xs ys : List D) (a : Addr), i ≠ j → m.e[i]? = some (.box ka xs) → m.e[j]? = some (.box kb ys) → σ[i]? = some (some (.ref a)) → σ[j]? = some (some (.ref a)) → False

section
variable {Γ : Gm} {B : Bs} {z z' : Fz} {m : M} {σ : L2.St} {H H' : Hp} {S : List (List D)}
/-- behind a call: the store and the frozen part may have grown -/
theorem Rl.call (r : Rl Γ B z m σ H) (f : Rf Γ z' S H') (st : Sn [] z z' H H') : Rl Γ B z' ⟨m.e, S⟩ σ H' where
  rf := f
  sn := r.sn.trans0 st
  len := r.len
  slot := fun i s w h1 h2 => by
    have q := r.slot i s w h1 h2
    cases s with
    | slf => exact q
    | un => trivial
    | val d =>
      obtain ⟨v, e, r⟩ := q
      exact ⟨v, e, Rep.mono st.ext d r⟩
    | box bk xs =>
      obtain ⟨a, vs, e, q1, q2, q3, q4, q5⟩ := q
      refine ⟨a, vs, e, st.keep a _ q1 q4 (fun q => nomatch q) (fun ps => bk.ntbl), RepL.mono st.ext xs q2, ?_, ?_, q5⟩
      · cases g : z'.G a with
        | none => rfl
        | some o =>
          rcases st.gnew a o g with h | h | h
          · rw [q3] at h; cases h
          · rw [q1] at h; cases h
          · exact nomatch h
      · intro hm
        rcases st.rnew a hm with h | h | h
        · exact q4 h
        · rw [q1] at h; cases h
        · exact nomatch h
  apart := r.apart
def Fz.add (z : Fz) (p : Addr) (o : HO) : Fz := ⟨upd z.G p o, z.r⟩
def Fz.cel (z : Fz) (p : Addr) : Fz := ⟨z.G, z.r ++ [p]⟩
theorem Rf.gnone (f : Rf Γ z S H) {p : Addr} (h : H p = none) : z.G p = none := by
  cases g : z.G p with
  | none => rfl
  | some o => rw [f.sub p o g] at h; cases h
theorem Rf.rnone (f : Rf Γ z S H) {p : Addr} (h : H p = none) : p ∉ z.r := fun hm => by
  obtain ⟨n, hn⟩ := List.getElem?_of_mem hm
  have hl : n < S.length := by rw [f.slen]; exact (List.getElem?_eq_some_iff.mp hn).1
  obtain ⟨vs, q, _⟩ := f.sto n S[n] p (List.getElem?_eq_getElem hl) hn
  rw [q] at h; cases h
theorem ext_add {p : Addr} {o : HO} (h : z.G p = none) : Ext z (z.add p o) :=
  ⟨fun a u e => by show upd z.G p o a = _; rw [upd_ne (ne_of_none e h)]; exact e, [], (List.append_nil _).symm⟩
theorem ext_cel {p : Addr} : Ext z (z.cel p) := ⟨fun _ _ e => e, [p], rfl⟩
/-- a new frozen object -/
theorem Rf.grow {p : Addr} {o : HO} (f : Rf Γ z S H) (h : H p = none) : Rf Γ (z.add p o) S (upd H p o) where
  sub := fun a u e => by
    have e : upd z.G p o a = some u := e
    by_cases ha : a = p
    · subst ha; rw [upd_same] at e ⊢; exact e
    · rw [upd_ne ha] at e ⊢; exact f.sub a u e
  slen := f.slen
  sto := fun n xs a h1 h2 => by
    obtain ⟨vs, q1, q2⟩ := f.sto n xs a h1 h2
    exact ⟨vs, by rw [upd_ne (ne_of_none q1 h)]; exact q1, RepL.mono (ext_add (f.gnone h)) xs q2⟩
  out := fun a ha => by
    show upd z.G p o a = none
    rw [upd_ne (fun (e : a = p) => f.rnone h (by rw [← e]; exact ha))]
    exact f.out a ha
  rnd := f.rnd
  tab := f.tab.ext fun b o e => by rw [upd_ne (ne_of_none e h)]; exact e
  tg := fun q hq => by
    obtain ⟨ps, h1, _⟩ := f.tab q hq
    show upd z.G p o q.1 = none
    rw [upd_ne (ne_of_none h1 h)]
    exact f.tg q hq
theorem sn_grow {p : Addr} {o : HO} (f : Rf Γ z S H) (h : H p = none) : Sn [] z (z.add p o) H (upd H p o) where
  ext := ext_add (f.gnone h)
  keep := fun a u e _ _ _ => by rw [upd_ne (ne_of_none e h)]; exact e
  live := fun a u e => ⟨u, by rw [upd_ne (ne_of_none e h)]; exact e⟩
  gnew := fun a u e => by
    have e : upd z.G p o a = some u := e
    by_cases ha : a = p
    · subst ha; exact .inr (.inl h)
    · rw [upd_ne ha] at e; exact .inl e
  rnew := fun a ha => .inl ha
theorem Rl.grow {p : Addr} {o : HO} (r : Rl Γ B z m σ H) (h : H p = none) : Rl Γ B (z.add p o) m σ (upd H p o) := r.call (r.rf.grow h) (sn_grow r.rf h)
/-- a new object that nobody knows yet -/
theorem sn_limbo {p : Addr} {o : HO} (h : H p = none) : Sn [] z z H (upd H p o) where
  ext := Ext.refl z
  keep := fun a u e _ _ _ => by rw [upd_ne (ne_of_none e h)]; exact e
  live := fun a u e => ⟨u, by rw [upd_ne (ne_of_none e h)]; exact e⟩
  gnew := fun a u e => .inl e
  rnew := fun a ha => .inl ha
theorem Rf.limbo {p : Addr} {o : HO} (f : Rf Γ z S H) (h : H p = none) : Rf Γ z S (upd H p o) where
  sub := fun a u e => by rw [upd_ne (fun q => by rw [q, f.gnone h] at e; cases e)]; exact f.sub a u e
  slen := f.slen
  sto := fun n xs a h1 h2 => by
    obtain ⟨vs, q1, q2⟩ := f.sto n xs a h1 h2
    exact ⟨vs, by rw [upd_ne (ne_of_none q1 h)]; exact q1, q2⟩
  out := f.out
  rnd := f.rnd
  tab := f.tab.ext fun b o e => by rw [upd_ne (ne_of_none e h)]; exact e
  tg := f.tg
/-- a list is written: no table, no code object -/
theorem tabs_lst {T : List (Addr × Str)} {H : Hp} {a : Addr} {vs vs' : List V} (t : LamX.Tabs T H) (h : H a = some (.lst vs)) : LamX.Tabs T (upd H a (.lst vs')) := fun p hp => by
  obtain ⟨ps, h1, h2, h3⟩ := t p hp
  refine ⟨ps, ?_, h2, fun pos cv hc => ?_⟩
  · rw [upd_ne (fun e => by rw [e, h] at h1; cases h1)]
    exact h1
  · obtain ⟨c, e1, e2⟩ := h3 pos cv hc
    refine ⟨c, e1, ?_⟩
    rw [upd_ne (fun e => by rw [e, h] at e2; have e3 := Option.some.inj e2; unfold LamX.CodeO at e3; cases e3)]
    exact e2
theorem tabs_box {T : List (Addr × Str)} {H : Hp} {a : Addr} {k k' : BK} {vs vs' : List V} (t : LamX.Tabs T H) (h : H a = some (k.ho vs)) : LamX.Tabs T (upd H a (k'.ho vs')) := fun p hp => by
  obtain ⟨ps, h1, h2, h3⟩ := t p hp
  refine ⟨ps, ?_, h2, fun pos cv hc => ?_⟩
  · rw [upd_ne (fun e => by rw [e, h] at h1; exact k.ntbl (Option.some.inj h1))]
    exact h1
  · obtain ⟨c, e1, e2⟩ := h3 pos cv hc
    refine ⟨c, e1, ?_⟩
    rw [upd_ne (fun e => by rw [e, h] at e2; exact k.next (Option.some.inj e2))]
    exact e2
/-- a thing at p that no slot, no cell and nothing frozen is -/
structure LimB (Γ : Gm) (B : Bs) (z : Fz) (m : M) (σ : L2.St) (H : Hp) (p : Addr) (k : BK) (xs : List D) : Prop where
  ex : ∃ vs, H p = some (k.ho vs) ∧ RepL Γ z xs vs
  g : z.G p = none
  r : p ∉ z.r
  b : B.H p = none ∨ p ∈ B.x
  sl : ∀ (i : Nat) (kb : BK) (ys : List D), m.e[i]? = some (.box kb ys) → σ[i]? ≠ some (some (.ref p))
abbrev Lim (Γ : Gm) (B : Bs) (z : Fz) (m : M) (σ : L2.St) (H : Hp) (p : Addr) (xs : List D) : Prop := LimB Γ B z m σ H p .l xs
theorem Rl.limboB {p : Addr} {k : BK} {xs : List D} {vs : List V} (r : Rl Γ B z m σ H) (h : H p = none) (q : RepL Γ z xs vs) : Rl Γ B z m σ (upd H p (k.ho vs)) ∧ LimB Γ B z m σ (upd H p (k.ho vs)) p k xs := by
  refine ⟨r.call (r.rf.limbo h) (sn_limbo h), ⟨vs, upd_same, q⟩, r.rf.gnone h, r.rf.rnone h, .inl (r.sn.back h), fun i kb ys h1 h2 => ?_⟩
  obtain ⟨a, us, e, q1, _⟩ := r.slot i _ _ h1 h2
  cases e
  rw [q1] at h; cases h
theorem Rl.limbo {p : Addr} {xs : List D} {vs : List V} (r : Rl Γ B z m σ H) (h : H p = none) (q : RepL Γ z xs vs) : Rl Γ B z m σ (upd H p (.lst vs)) ∧ Lim Γ B z m σ (upd H p (.lst vs)) p xs := r.limboB (k := .l) h q
/-- it is frozen -/
theorem LimB.freeze {p : Addr} {bk : BK} {xs : List D} (l : LimB Γ B z m σ H p bk xs) (r : Rl Γ B z m σ H) : ∃ z' vs, Ext z z' ∧ Rl Γ B z' m σ H ∧ z'.G p = some (bk.ho vs) ∧ RepL Γ z' xs vs := by
  obtain ⟨vs, h1, h2⟩ := l.ex
  have ex : Ext z (z.add p (bk.ho vs)) := ext_add l.g
  refine ⟨z.add p (bk.ho vs), vs, ex, ⟨⟨fun a o e => ?_, r.rf.slen, fun n ys a e1 e2 => ?_, fun a ha => ?_, r.rf.rnd, r.rf.tab, fun q hq => ?_⟩, ⟨r.sn.ext.trans ex, r.sn.keep, r.sn.live, fun a o e => ?_, r.sn.rnew⟩, r.len, fun i s w e1 e2 => ?_, r.apart⟩, ?_, RepL.mono ex xs h2⟩
  · have e : upd z.G p (bk.ho vs) a = some o := e
    by_cases ha : a = p
    · subst ha; rw [upd_same] at e; cases e; exact h1
    · rw [upd_ne ha] at e; exact r.rf.sub a o e
  · obtain ⟨us, q1, q2⟩ := r.rf.sto n ys a e1 e2
    exact ⟨us, q1, RepL.mono ex ys q2⟩
  · show upd z.G p (bk.ho vs) a = none
    rw [upd_ne (fun (e : a = p) => l.r (by rw [← e]; exact ha))]
    exact r.rf.out a ha
  · obtain ⟨ps, q1, _⟩ := r.rf.tab q hq
    show upd z.G p (bk.ho vs) q.1 = none
    rw [upd_ne (fun e => by rw [e, h1] at q1; exact bk.ntbl (Option.some.inj q1))]
    exact r.rf.tg q hq
  · have e : upd z.G p (bk.ho vs) a = some o := e
    by_cases ha : a = p
    · subst ha; exact .inr l.b
    · rw [upd_ne ha] at e; exact r.sn.gnew a o e
  · have q := r.slot i s w e1 e2
    cases s with
    | slf => exact q
    | un => trivial
    | val d =>
      obtain ⟨v, e, t⟩ := q
      exact ⟨v, e, Rep.mono ex d t⟩
    | box bk2 ys =>
      obtain ⟨a, us, e, q1, q2, q3, q4, q5⟩ := q
      refine ⟨a, us, e, q1, RepL.mono ex ys q2, ?_, q4, q5⟩
      show upd z.G p (bk.ho vs) a = none
      rw [upd_ne (fun ea => l.sl i bk2 ys e1 (by rw [e2, e, ea]))]
      exact q3
  · show upd z.G p (bk.ho vs) p = _
    rw [upd_same]
theorem LimB.lst {p : Addr} {xs : List D} (l : LimB Γ B z m σ H p .l xs) (r : Rl Γ B z m σ H) : ∃ z', Ext z z' ∧ Rl Γ B z' m σ H ∧ Rep Γ z' (.lst xs) (.ref p) := by
  obtain ⟨z', vs, x1, x2, x3, x4⟩ := LimB.freeze l r
  refine ⟨z', x1, x2, ?_⟩
  simp only [Rep]
  exact ⟨p, vs, rfl, x3, x4⟩
theorem Lim.freeze {p : Addr} {xs : List D} (l : Lim Γ B z m σ H p xs) (r : Rl Γ B z m σ H) : ∃ z', Ext z z' ∧ Rl Γ B z' m σ H ∧ Rep Γ z' (.lst xs) (.ref p) := LimB.lst l r
/-- it becomes a cell -/
theorem Lim.cel {p : Addr} {xs : List D} (l : Lim Γ B z m σ H p xs) (r : Rl Γ B z m σ H) : ∃ z', Ext z z' ∧ Rl Γ B z' ⟨m.e, m.S ++ [xs]⟩ σ H ∧ Rep Γ z' (.cel m.S.length) (.ref p) := by
  obtain ⟨vs, h1, h2⟩ := l.ex
  have ex : Ext z (z.cel p) := ext_cel
  refine ⟨z.cel p, ex, ⟨⟨r.rf.sub, by simp [Fz.cel, r.rf.slen], fun n ys a e1 e2 => ?_, fun a ha => ?_, ?_, r.rf.tab, r.rf.tg⟩, ⟨r.sn.ext.trans ex, r.sn.keep, r.sn.live, r.sn.gnew, fun a ha => ?_⟩, r.len, fun i s w e1 e2 => ?_, r.apart⟩, ?_⟩
  · have e2 : (z.r ++ [p])[n]? = some a := e2
    by_cases hn : n < m.S.length
    · rw [List.getElem?_append_left hn] at e1
      rw [List.getElem?_append_left (by rw [← r.rf.slen]; exact hn)] at e2
      obtain ⟨us, q1, q2⟩ := r.rf.sto n ys a e1 e2
      exact ⟨us, q1, RepL.mono ex ys q2⟩
    · have hn' : n = m.S.length := by
        have := (List.getElem?_eq_some_iff.mp e1).1
        simp at this; omega
      subst hn'
      rw [List.getElem?_append_right (Nat.le_refl _)] at e1
      rw [r.rf.slen, List.getElem?_append_right (Nat.le_refl _)] at e2
      simp at e1 e2
      subst e1; subst e2
      exact ⟨vs, h1, RepL.mono ex xs h2⟩
  · have ha : a ∈ z.r ++ [p] := ha
    rcases List.mem_append.mp ha with h | h
    · exact r.rf.out a h
    · rw [List.mem_singleton.mp h]; exact l.g
  · show (z.r ++ [p]).Nodup
    exact List.nodup_append.mpr ⟨r.rf.rnd, by simp, fun a ha b hb e => by
      rw [List.mem_singleton.mp hb] at e
      exact l.r (e ▸ ha)⟩
  · have ha : a ∈ z.r ++ [p] := ha
    rcases List.mem_append.mp ha with h | h
    · exact r.sn.rnew a h
    · rw [List.mem_singleton.mp h]; exact .inr l.b
  · have q := r.slot i s w e1 e2
    cases s with
    | slf => exact q
    | un => trivial
    | val d =>
      obtain ⟨v, e, t⟩ := q
      exact ⟨v, e, Rep.mono ex d t⟩
    | box bk ys =>
      obtain ⟨a, us, e, q1, q2, q3, q4, q5⟩ := q
      refine ⟨a, us, e, q1, RepL.mono ex ys q2, q3, fun hm => ?_, q5⟩
      have hm : a ∈ z.r ++ [p] := hm
      rcases List.mem_append.mp hm with h | h
      · exact q4 h
      · exact l.sl i bk ys e1 (by rw [e2, e, List.mem_singleton.mp h])
  · simp only [Rep]
    refine ⟨p, rfl, ?_⟩
    show (z.r ++ [p])[m.S.length]? = some p
    rw [r.rf.slen, List.getElem?_append_right (Nat.le_refl _)]
    simp
/-- a slot is set -/
theorem Rl.set {i : Nat} {s : Sl} {w : Option V} (r : Rl Γ B z m σ H) (h : SlOk Γ B z H s w) (ap : ∀ kx xs a, s = .box kx xs → w = some (.ref a) → ∀ (j : Nat) (ky : BK) (ys : List D), m.e[j]? = some (.box ky ys) → σ[j]? ≠ some (some (.ref a))) :
    Rl Γ B z ⟨m.e.set i s, m.S⟩ (σ.set i w) H where
  rf := r.rf
  sn := r.sn
  len := by simp [r.len]
  slot := fun j t u e1 e2 => by
    have e1 : (m.e.set i s)[j]? = some t := e1
    by_cases hj : i = j
    · subst hj
      have hl : i < m.e.length := by
        have := (List.getElem?_eq_some_iff.mp e1).1
        simpa using this
      rw [List.getElem?_set_self hl] at e1
      rw [List.getElem?_set_self (by rw [← r.len]; exact hl)] at e2
      cases e1; cases e2
      exact h
    · rw [List.getElem?_set_ne hj] at e1 e2
      exact r.slot j t u e1 e2
  apart := fun j k kx ky xs ys a hjk f1 f2 e3 e4 => by
    have e1 : (m.e.set i s)[j]? = some (.box kx xs) := f1
    have e2 : (m.e.set i s)[k]? = some (.box ky ys) := f2
    clear f1 f2
    by_cases hj : i = j
    · subst hj
      have hl : i < m.e.length := by
        have := (List.getElem?_eq_some_iff.mp e1).1
        simpa using this
      rw [List.getElem?_set_self hl] at e1
      rw [List.getElem?_set_self (by rw [← r.len]; exact hl)] at e3
      rw [List.getElem?_set_ne hjk] at e2 e4
      have q1 := Option.some.inj e1
      have q3 := Option.some.inj e3
      exact ap kx xs a q1 q3 k ky ys e2 e4
    · rw [List.getElem?_set_ne hj] at e1 e3
      by_cases hk : i = k
      · subst hk
        have hl : i < m.e.length := by
          have := (List.getElem?_eq_some_iff.mp e2).1
          simpa using this
        rw [List.getElem?_set_self hl] at e2
        rw [List.getElem?_set_self (by rw [← r.len]; exact hl)] at e4
        have q2 := Option.some.inj e2
        have q4 := Option.some.inj e4
        exact ap ky ys a q2 q4 j kx xs e1 e3
      · rw [List.getElem?_set_ne hk] at e2 e4
        exact r.apart j k kx ky xs ys a hjk e1 e2 e3 e4
theorem Rl.setVal {i : Nat} {d : D} {v : V} (r : Rl Γ B z m σ H) (h : Rep Γ z d v) : Rl Γ B z ⟨m.e.set i (.val d), m.S⟩ (σ.set i (some v)) H :=
  r.set ⟨v, rfl, h⟩ (fun _ _ _ e => nomatch e)
theorem Rl.setUn {i : Nat} {w : Option V} (r : Rl Γ B z m σ H) : Rl Γ B z ⟨m.e.set i .un, m.S⟩ (σ.set i w) H :=
  r.set trivial (fun _ _ _ e => nomatch e)
theorem LimB.setBox {i : Nat} {p : Addr} {bk : BK} {xs : List D} (l : LimB Γ B z m σ H p bk xs) (r : Rl Γ B z m σ H) : Rl Γ B z ⟨m.e.set i (.box bk xs), m.S⟩ (σ.set i (some (.ref p))) H := by
  obtain ⟨vs, h1, h2⟩ := l.ex
  exact r.set ⟨p, vs, rfl, h1, h2, l.g, l.r, l.b⟩ (fun _ _ a _ e j ky ys h3 => by cases e; exact l.sl j ky ys h3)
theorem Lim.setBld {i : Nat} {p : Addr} {xs : List D} (l : Lim Γ B z m σ H p xs) (r : Rl Γ B z m σ H) : Rl Γ B z ⟨m.e.set i (.bld xs), m.S⟩ (σ.set i (some (.ref p))) H := LimB.setBox l r
/-- the list that slot i builds is changed -/
theorem Rl.boxWrite {i : Nat} {a : Addr} {bk bk' : BK} {xs xs' : List D} {vs' : List V} (r : Rl Γ B z m σ H) (h1 : m.e[i]? = some (.box bk xs)) (h2 : σ[i]? = some (some (.ref a))) (q : RepL Γ z xs' vs') :
    Rl Γ B z ⟨m.e.set i (.box bk' xs'), m.S⟩ σ (upd H a (bk'.ho vs')) := by
  obtain ⟨a', vs, e, k1, k2, k3, k4, k5⟩ := r.slot i _ _ h1 h2
  cases e
  have hl : i < m.e.length := (List.getElem?_eq_some_iff.mp h1).1
  refine ⟨⟨fun b o e => ?_, r.rf.slen, fun n ys b e1 e2 => ?_, r.rf.out, r.rf.rnd, tabs_box r.rf.tab k1, r.rf.tg⟩, ⟨r.sn.ext, fun b o e hn hx ht => ?_, fun b o e => ?_, r.sn.gnew, r.sn.rnew⟩, by simp [r.len], fun j s w e1 e2 => ?_, fun j k ku kw us ws b hjk e1 e2 e3 e4 => ?_⟩
  · rw [upd_ne (fun q => by rw [q, k3] at e; cases e)]
    exact r.rf.sub b o e
  · obtain ⟨us, q1, q2⟩ := r.rf.sto n ys b e1 e2
    exact ⟨us, by rw [upd_ne (fun (q : b = a) => k4 (by rw [← q]; exact List.mem_of_getElem? e2))]; exact q1, q2⟩
  · rw [upd_ne (fun (q : b = a) => by
      rcases k5 with k | k
      · rw [q, k] at e; cases e
      · exact hx (by rw [q]; exact k))]
    exact r.sn.keep b o e hn hx ht
  · by_cases hb : b = a
    · subst hb; exact ⟨_, upd_same⟩
    · rw [upd_ne hb]; exact r.sn.live b o e
  · have e1 : (m.e.set i (.box bk' xs'))[j]? = some s := e1
    by_cases hj : i = j
    · subst hj
      rw [List.getElem?_set_self hl] at e1
      rw [h2] at e2
      cases e1; cases e2
      exact ⟨a, vs', rfl, upd_same, q, k3, k4, k5⟩
    · rw [List.getElem?_set_ne hj] at e1
      have t := r.slot j s w e1 e2
      cases s with
      | slf => exact t
      | un => trivial
      | val d => exact t
      | box bk2 ys =>
        obtain ⟨b, us, e, q1, q2, q3, q4, q5⟩ := t
        refine ⟨b, us, e, ?_, q2, q3, q4, q5⟩
        rw [upd_ne (fun eb => r.apart i j bk bk2 xs ys a hj h1 e1 h2 (by rw [e2, e, eb]))]
        exact q1
  · have e1 : (m.e.set i (.box bk' xs'))[j]? = some (.box ku us) := e1
    have e2 : (m.e.set i (.box bk' xs'))[k]? = some (.box kw ws) := e2
    have back : ∀ (t : Nat) (ky : BK) (ys : List D), (m.e.set i (.box bk' xs'))[t]? = some (.box ky ys) → ∃ ky' ys', m.e[t]? = some (.box ky' ys') := fun t ky ys e => by
      by_cases ht : i = t
      · subst ht; exact ⟨bk, xs, h1⟩
      · rw [List.getElem?_set_ne ht] at e; exact ⟨ky, ys, e⟩
    obtain ⟨ku', us', f1⟩ := back j ku us e1
    obtain ⟨kw', ws', f2⟩ := back k kw ws e2
    exact r.apart j k ku' kw' us' ws' b hjk f1 f2 e3 e4
theorem Rl.bldWrite {i : Nat} {a : Addr} {xs xs' : List D} {vs' : List V} (r : Rl Γ B z m σ H) (h1 : m.e[i]? = some (.bld xs)) (h2 : σ[i]? = some (some (.ref a))) (q : RepL Γ z xs' vs') :
    Rl Γ B z ⟨m.e.set i (.bld xs'), m.S⟩ σ (upd H a (.lst vs')) := r.boxWrite (bk' := .l) h1 h2 q
/-- slot i's list is frozen -/
theorem Rl.boxFreeze {i : Nat} {v : V} {bk : BK} {xs : List D} {d : D} (r : Rl Γ B z m σ H) (h1 : m.e[i]? = some (.box bk xs)) (h2 : σ[i]? = some (some v)) (hd : ∀ z' vs a, z'.G a = some (bk.ho vs) → RepL Γ z' xs vs → Rep Γ z' d (.ref a)) :
    ∃ z', Ext z z' ∧ Rl Γ B z' ⟨m.e.set i (.val d), m.S⟩ σ H ∧ Rep Γ z' d v := by
  obtain ⟨a, vs, e, k1, k2, k3, k4, k5⟩ := r.slot i _ _ h1 h2
  cases e
  have hσ : σ.set i (some (.ref a)) = σ := by
    have hl := (List.getElem?_eq_some_iff.mp h2).1
    have he := (List.getElem?_eq_some_iff.mp h2).2
    rw [← he, List.set_getElem_self]
  have r1 : Rl Γ B z ⟨m.e.set i .un, m.S⟩ σ H := by
    have t := r.setUn (i := i) (w := some (.ref a))
    rw [hσ] at t
    exact t
  have l : LimB Γ B z ⟨m.e.set i .un, m.S⟩ σ H a bk xs := ⟨⟨vs, k1, k2⟩, k3, k4, k5, fun j ky ys e1 e2 => by
    have e1 : (m.e.set i .un)[j]? = some (.box ky ys) := e1
    by_cases hj : i = j
    · subst hj
      rw [List.getElem?_set_self (List.getElem?_eq_some_iff.mp h1).1] at e1
      cases e1
    · rw [List.getElem?_set_ne hj] at e1
      exact r.apart i j bk ky xs ys a hj h1 e1 h2 e2⟩
  obtain ⟨z', vs', x1, x2, x4, x5⟩ := LimB.freeze l r1
  have x3 := hd z' vs' a x4 x5
  refine ⟨z', x1, ?_, x3⟩
  have t := x2.setVal (i := i) x3
  rw [hσ] at t
  have e : (m.e.set i .un).set i (.val d) = m.e.set i (.val d) := List.set_set ..
  rw [show (⟨m.e.set i (.val d), m.S⟩ : M) = ⟨(m.e.set i .un).set i (.val d), m.S⟩ by rw [e]]
  exact t
theorem Rl.bldFreeze {i : Nat} {v : V} {xs : List D} (r : Rl Γ B z m σ H) (h1 : m.e[i]? = some (.bld xs)) (h2 : σ[i]? = some (some v)) :
    ∃ z', Ext z z' ∧ Rl Γ B z' ⟨m.e.set i (.val (.lst xs)), m.S⟩ σ H ∧ Rep Γ z' (.lst xs) v :=
  r.boxFreeze h1 h2 fun z' vs a h q => by simp only [Rep]; exact ⟨a, vs, rfl, h, q⟩
/-- a cell is changed -/
theorem Rl.celWrite {n : Nat} {a : Addr} {xs : List D} {vs : List V} (r : Rl Γ B z m σ H) (h : z.r[n]? = some a) (q : RepL Γ z xs vs) : Rl Γ B z ⟨m.e, m.S.set n xs⟩ σ (upd H a (.lst vs)) := by
  have ha : a ∈ z.r := List.mem_of_getElem? h
  obtain ⟨vs0, hv0⟩ : ∃ vs0, H a = some (.lst vs0) := by
    have hl : n < m.S.length := by rw [r.rf.slen]; exact (List.getElem?_eq_some_iff.mp h).1
    obtain ⟨vs0, q0, _⟩ := r.rf.sto n m.S[n] a (List.getElem?_eq_getElem hl) h
    exact ⟨vs0, q0⟩
  refine r.call ⟨fun b o e => ?_, by simp [r.rf.slen], fun k ys b e1 e2 => ?_, r.rf.out, r.rf.rnd, tabs_lst r.rf.tab hv0, r.rf.tg⟩ ⟨Ext.refl z, fun b o e hn _ _ => ?_, fun b o e => ?_, fun _ _ e => .inl e, fun _ e => .inl e⟩
  · rw [upd_ne (fun q => by rw [q, r.rf.out a ha] at e; cases e)]
    exact r.rf.sub b o e
  · by_cases hk : n = k
    · subst hk
      have hl := (List.getElem?_eq_some_iff.mp e1).1
      simp at hl
      rw [List.getElem?_set_self hl] at e1
      rw [h] at e2
      cases e1; cases e2
      exact ⟨vs, upd_same, q⟩
    · rw [List.getElem?_set_ne hk] at e1
      obtain ⟨us, q1, q2⟩ := r.rf.sto k ys b e1 e2
      refine ⟨us, ?_, q2⟩
      rw [upd_ne (fun eb => hk ?_)]
      · exact q1
      · subst eb
        have h1 := List.getElem?_eq_some_iff.mp h
        have h2 := List.getElem?_eq_some_iff.mp e2
        exact nodupIx r.rf.rnd h e2
  · rw [upd_ne (fun (q : b = a) => hn (by rw [q]; exact ha))]; exact e
  · by_cases hb : b = a
    · subst hb; exact ⟨_, upd_same⟩
    · exact ⟨o, by rw [upd_ne hb]; exact e⟩
/-- the addresses of the lists that are being built -/
def blds : List Sl → L2.St → List Addr
  | .box _ _ :: e, some (.ref a) :: σ => a :: blds e σ
  | _ :: e, _ :: σ => blds e σ
  | _, _ => []
theorem mem_blds : ∀ {e : List Sl} {σ : L2.St} {a : Addr}, a ∈ blds e σ ↔ ∃ (i : Nat) (bk : BK) (xs : List D), e[i]? = some (Sl.box bk xs) ∧ σ[i]? = some (some (V.ref a))
  | [], σ, a => by simp [blds]
  | s :: e, [], a => by
    constructor
    · intro h; cases s <;> simp [blds] at h
    · rintro ⟨i, bk, xs, _, h⟩; simp at h
  | s :: e, w :: σ, a => by
    have ih := @mem_blds e σ a
    constructor
    · intro h
      have key : (∃ bk xs, s = .box bk xs ∧ w = some (.ref a)) ∨ a ∈ blds e σ := by
        cases s with
        | slf => exact .inr h
        | un => exact .inr h
        | val d => exact .inr h
        | box bk xs =>
          cases w with
          | none => exact .inr h
          | some v =>
            cases v with
            | ref b =>
              rcases List.mem_cons.mp h with q | q
              · exact .inl ⟨bk, xs, rfl, by rw [q]⟩
              · exact .inr q
            | _ => exact .inr h
      rcases key with ⟨bk, xs, rfl, rfl⟩ | h
      · exact ⟨0, bk, xs, rfl, rfl⟩
      · obtain ⟨i, bk, xs, h1, h2⟩ := ih.mp h
        exact ⟨i + 1, bk, xs, by simpa using h1, by simpa using h2⟩
    · rintro ⟨i, bk, xs, h1, h2⟩
      cases i with
      | zero =>
        simp at h1 h2
        subst h1; subst h2
        exact List.mem_cons_self
      | succ i =>
        have q := ih.mpr ⟨i, bk, xs, by simpa using h1, by simpa using h2⟩
        cases s with
        | slf => exact q
        | un => exact q
        | val d => exact q
        | box bk ys =>
          cases w with
          | none => exact q
          | some v => cases v <;> first | exact q | exact List.mem_cons_of_mem _ q
/-- the entry moved up to here -/
def Bs.here (B : Bs) (m : M) (z : Fz) (σ : L2.St) (H : Hp) : Bs := ⟨H, z, blds m.e σ, B.s, B.fr⟩
theorem Rl.rebase (r : Rl Γ B z m σ H) : Rl Γ (Bs.here B m z σ H) z m σ H where
  rf := r.rf
  sn := Sn.refl _ z H
  len := r.len
  slot := fun i s w h1 h2 => by
    have q := r.slot i s w h1 h2
    cases s with
    | slf => exact q
    | un => trivial
    | val d => exact q
    | box bk xs =>
      obtain ⟨a, vs, e, q1, q2, q3, q4, q5⟩ := q
      exact ⟨a, vs, e, q1, q2, q3, q4, .inr (mem_blds.mpr ⟨i, bk, xs, h1, by rw [h2, e]⟩)⟩
  apart := r.apart
theorem blds_of (r : Rl Γ B z m σ H) : ∀ c ∈ blds m.e σ, B.H c = none ∨ c ∈ B.x := fun c hc => by
  obtain ⟨i, bk, xs, h1, h2⟩ := mem_blds.mp hc
  obtain ⟨a, vs, e, q1, q2, q3, q4, q5⟩ := r.slot i _ _ h1 h2
  cases e
  exact q5
theorem Rl.unbase {m' : M} {σ' : L2.St} (r : Rl Γ B z m σ H) (r' : Rl Γ (Bs.here B m z σ H) z' m' σ' H') : Rl Γ B z' m' σ' H' where
  rf := r'.rf
  sn := r.sn.trans r'.sn (blds_of r)
  len := r'.len
  slot := fun i s w h1 h2 => by
    have q := r'.slot i s w h1 h2
    cases s with
    | slf => exact q
    | un => trivial
    | val d => exact q
    | box bk xs =>
      obtain ⟨a, vs, e, q1, q2, q3, q4, q5⟩ := q
      refine ⟨a, vs, e, q1, q2, q3, q4, ?_⟩
      rcases q5 with q5 | q5
      · exact .inl (r.sn.back q5)
      · exact blds_of r a q5
  apart := r'.apart
/-- a list in limbo stands through it -/
theorem LimB.through {m' : M} {σ' : L2.St} {p : Addr} {bk : BK} {xs : List D} (l : LimB Γ B z m σ H p bk xs) (r : Rl Γ B z m σ H) (r' : Rl Γ (Bs.here B m z σ H) z' m' σ' H') : LimB Γ B z' m' σ' H' p bk xs := by
  obtain ⟨vs, h1, h2⟩ := l.ex
  have px : p ∉ blds m.e σ := fun h => by
    obtain ⟨i, ky, ys, k1, k2⟩ := mem_blds.mp h
    exact l.sl i ky ys k1 k2
  refine ⟨⟨vs, r'.sn.keep p _ h1 l.r px (fun ps => bk.ntbl), RepL.mono r'.sn.ext xs h2⟩, ?_, fun hm => ?_, l.b, fun i ky ys k1 k2 => ?_⟩
  · cases g : z'.G p with
    | none => rfl
    | some o =>
      rcases r'.sn.gnew p o g with h | h | h
      · have := l.g; rw [show z.G p = some o from h] at this; cases this
      · rw [show H p = none from h] at h1; cases h1
      · exact absurd h px
  · rcases r'.sn.rnew p hm with h | h | h
    · exact l.r h
    · rw [show H p = none from h] at h1; cases h1
    · exact px h
  · obtain ⟨a, us, e, _, _, _, _, q5⟩ := r'.slot i _ _ k1 k2
    cases e
    rcases q5 with q5 | q5
    · rw [show H p = none from q5] at h1; cases h1
    · exact px q5
end
end Z

set_option Elab.async false
set_option linter.all false
set_option maxRecDepth 100000
set_option maxHeartbeats 2000000
/-! Z2: readings of denotations; expressions -/
namespace Z
open PySem PySem.Spec PyProof.Rows L2

/-- how an answer stands in the world -/
abbrev RpT (α β : Type) := Fz → M → L2.St → Hp → α → β → Prop
section
variable (Γ : Gm) (B : Bs) (W : WX)
def Po {α β : Type} (rep : RpT α β) (σ : L2.St) (z : Fz) (r : R α) (Q : β → Hp → Prop) : Prop := match r with
  | .ok a m => ∀ z' b H', Ext z z' → Rl Γ B z' m σ H' → rep z' m σ H' a b → Q b H'
  | .exc c d m => ∀ z' dx u H', Ext z z' → Rl Γ B z' m σ H' → z'.G dx = some (.xd [(("value" : Str), u)]) → Rep Γ z' d u → W (.ref (Γ.cls c)) (some dx) σ H'
  | .bad => False
def tZ {α β : Type} (rep : RpT α β) (f : M → R α) : L2.St → Hp → (β → Hp → Prop) → Prop := fun σ H Q => ∃ m z, Rl Γ B z m σ H ∧ Po Γ B W rep σ z (f m) Q
abbrev rpE : RpT D V := fun z _ _ _ d v => Rep Γ z d v
abbrev rpA : RpT (List D) (List V) := fun z _ _ _ ds vs => RepL Γ z ds vs
abbrev rpB : RpT Bool Bool := fun _ _ _ _ a b => b = a
abbrev rpF : RpT (List D) V := fun z m σ H xs v => ∃ p, v = .ref p ∧ Lim Γ B z m σ H p xs
abbrev tE (f : Den) : TE := tZ Γ B W (rpE Γ) f
abbrev tA (f : DenL) : TA := tZ Γ B W (rpA Γ) f
abbrev tT (f : M → R Bool) : TT := tZ Γ B W rpB f
abbrev tF (f : DenL) : TE := tZ Γ B W (rpF Γ B) f
end

section
variable {Γ : Gm} {B : Bs} {W : WX} {X : Cx} {σ : L2.St} {H : Hp} {z z' : Fz} {m : M}
theorem Po.mono {α β : Type} {rep : RpT α β} {r : R α} {Q : β → Hp → Prop} (h : Po Γ B W rep σ z r Q) (e : Ext z z') : Po Γ B W rep σ z' r Q := by
  cases r with
  | ok a m => exact fun z1 b H1 e1 => h z1 b H1 (e.trans e1)
  | exc c d m => exact fun z1 dx u H1 e1 => h z1 dx u H1 (e.trans e1)
  | bad => exact h
/-- first f, then k -/
theorem bnd {α β α' β' : Type} {rep : RpT α β} {rep2 : RpT α' β'} {f : M → R α} {k : α → M → R α'} {Q : β' → Hp → Prop} {Q' : β → Hp → Prop} (r : Rl Γ B z m σ H) (h : Po Γ B W rep2 σ z ((f m).bind k) Q)
    (hq : ∀ z1 a m1 b H1, Ext z z1 → Rl Γ B z1 m1 σ H1 → rep z1 m1 σ H1 a b → Po Γ B W rep2 σ z1 (k a m1) Q → Q' b H1) : tZ Γ B W rep f σ H Q' := by
  refine ⟨m, z, r, ?_⟩
  cases e : f m with
  | ok a m1 =>
    rw [e] at h
    exact fun z1 b H1 e1 r1 q => hq z1 a m1 b H1 e1 r1 q (Po.mono h e1)
  | exc c d m1 =>
    rw [e] at h
    exact h
  | bad =>
    rw [e] at h
    exact h
theorem PE.imp {e : Expr} {t t' : TE} (h : PE X e t) (q : ∀ σ H Q, t' σ H Q → t σ H Q) : PE X e t' := ⟨fun pins s σ H Q I w => h.run pins s σ H Q I (q σ H Q w)⟩
theorem PA.imp {e : List Expr} {t t' : TA} (h : PA X e t) (q : ∀ σ H Q, t' σ H Q → t σ H Q) : PA X e t' := ⟨fun pos pins s σ H Q I w => h.run pos pins s σ H Q I (q σ H Q w)⟩
theorem PT.imp {e : Expr} {t t' : TT} (h : PT X e t) (q : ∀ σ H Q, t' σ H Q → t σ H Q) : PT X e t' := ⟨fun pins s σ H Q I w => h.run pins s σ H Q I (q σ H Q w)⟩
theorem PW.imp {e : Expr} {t t' : TT} (h : PW X e t) (q : ∀ σ H Q, t' σ H Q → t σ H Q) : PW X e t' := ⟨fun wh pins s σ H Q I w => h.run wh pins s σ H Q I (q σ H Q w)⟩

/-! ### constants, names -/
def zk (d : D) : Den := fun m => .ok d m
def zvar (i : Nat) : Den := fun m => match m.e[i]? with
  | some (.val d) => .ok d m
  | some (.box .l xs) => .ok (.lst xs) ⟨m.e.set i (.val (.lst xs)), m.S⟩
  | _ => .bad
theorem z_int {i : Int} {j : Nat} {pos : Pos} : PE X (.Constant (.int i) j pos) (tE Γ B W (zk (.int i))) := PE.imp pe_int fun σ H Q ⟨m, z, r, h⟩ => h z (.int i) H (Ext.refl z) r (by simp only [Rep])
theorem z_str {x : Str} {j : Nat} {pos : Pos} : PE X (.Constant (.str x) j pos) (tE Γ B W (zk (.str x))) := PE.imp pe_str fun σ H Q ⟨m, z, r, h⟩ => h z (.str x) H (Ext.refl z) r (by simp only [Rep])
theorem z_bl {b : Bool} {j : Nat} {pos : Pos} : PE X (.Constant (.bool b) j pos) (tE Γ B W (zk (.bl b))) := PE.imp pe_bl fun σ H Q ⟨m, z, r, h⟩ => h z (.bl b) H (Ext.refl z) r (by simp only [Rep])
theorem z_non {j : Nat} {pos : Pos} : PE X (.Constant .none j pos) (tE Γ B W (zk .non)) := PE.imp pe_non fun σ H Q ⟨m, z, r, h⟩ => h z .non H (Ext.refl z) r (by simp only [Rep])
/-- a module's constant -/
theorem z_glob {x : Str} {d : D} {v : V} {u : Value} {pos : Pos} (hg : Gl X x) (hm : X.mg x = some u) (rv : RelV v u) (hd : ∀ z, Rep Γ z d v) (hdb : (x == ("__debug__" : Str)) = false) : PE X (.Name x pos) (tE Γ B W (zk d)) :=
  PE.imp (pe_glob hg hm rv hdb) fun σ H Q ⟨m, z, r, h⟩ => h z v H (Ext.refl z) r (hd z)
theorem z_var {i : Nat} {x : Str} {pos : Pos} (hN : X.N[i]? = some x) (hv : Vis X.env.scope x) (hd : (x == ("__debug__" : Str)) = false) (hcd : (x == ("__classdict__" : Str)) = false) : PE X (.Name x pos) (tE Γ B W (zvar i)) :=
  PE.imp (pe_var hN hv hd hcd) fun σ H Q ⟨m, z, r, h⟩ => by
    unfold zvar at h
    split at h
    · rename_i d e
      have hl : i < σ.length := by rw [← r.len]; exact (List.getElem?_eq_some_iff.mp e).1
      obtain ⟨v, ev, rp⟩ := r.slot i _ _ e (List.getElem?_eq_getElem hl)
      exact ⟨v, by rw [List.getElem?_eq_getElem hl, ev], h z v H (Ext.refl z) r rp⟩
    · rename_i xs e
      have hl : i < σ.length := by rw [← r.len]; exact (List.getElem?_eq_some_iff.mp e).1
      have e2 := List.getElem?_eq_getElem hl
      obtain ⟨a, vs, ev, _⟩ := r.slot i _ _ e e2
      rw [ev] at e2
      obtain ⟨z', x1, x2, x3⟩ := r.bldFreeze e e2
      exact ⟨.ref a, e2, h z' _ H x1 x2 x3⟩
    · exact h.elim

/-! ### operations by values -/
/-- r does what g says -/
def OpZ (Γ : Gm) (B : Bs) (r : R2) (g : D → D → Option D) : Prop := ∀ (z : Fz) (m : M) (σ : L2.St) (H : Hp) (d e c : D) (x y : V) (Q : VK), Rl Γ B z m σ H → Rep Γ z d x → Rep Γ z e y → g d e = some c →
  (∀ z' v H', Ext z z' → Rl Γ B z' m σ H' → Rep Γ z' c v → Q v H') → r x y H Q
def zop (g : D → D → Option D) (f h : Den) : Den := fun m => (f m).bind fun d m1 => (h m1).bind fun e m2 => ofO (g d e) m2
theorem op_conv {r : R2} {g : D → D → Option D} {f h : Den} (oz : OpZ Γ B r g) {Q : VK} (hz : tE Γ B W (zop g f h) σ H Q) : tOp r (tE Γ B W f) (tE Γ B W h) σ H Q := by
  obtain ⟨m, z, rl, h⟩ := hz
  refine bnd rl h fun z1 d m1 x H1 e1 r1 p1 h1 => bnd r1 h1 fun z2 e m2 y H2 e2 r2 p2 h2 => ?_
  cases q : g d e with
  | none => rw [q] at h2; exact h2.elim
  | some c =>
    rw [q] at h2
    exact oz z2 m2 σ H2 d e c x y Q r2 (Rep.mono e2 d p1) p2 q h2
variable {a b c : Expr} {f g h : Den} {pos : Pos}
theorem z_op {op : Operator} {r : R2} {k : D → D → Option D} (ho : OpR X (binaryOp op) r) (oz : OpZ Γ B r k) (ha : PE X a (tE Γ B W f)) (hb : PE X b (tE Γ B W g)) : PE X (.BinOp a op b pos) (tE Γ B W (zop k f g)) :=
  PE.imp (pe_op ho ha hb) fun _ _ _ hz => op_conv oz hz
theorem z_cmp {op : CmpOp} {r : R2} {k : D → D → Option D} (ho : OpR X (compareOp op) r) (oz : OpZ Γ B r k) (ha : PE X a (tE Γ B W f)) (hb : PE X b (tE Γ B W g)) (hn : behindInMarks op b = false) : PE X (.Compare a [op] [b] pos) (tE Γ B W (zop k f g)) :=
  PE.imp (pe_cmpR ho ha hb hn) fun _ _ _ hz => op_conv oz hz
/-- a value as a test: bools alone -/
def toB (f : Den) : M → R Bool := fun m => (f m).bind fun d m1 => match d with
  | .bl b => .ok b m1
  | _ => .bad
theorem toB_conv {Q : Bool → Hp → Prop} (hz : tT Γ B W (toB f) σ H Q) : tE Γ B W f σ H fun x H1 => ∃ c, x = .bl c ∧ Q c H1 := by
  obtain ⟨m, z, rl, h⟩ := hz
  refine bnd rl h fun z1 d m1 x H1 e1 r1 p1 h1 => ?_
  cases d with
  | bl b =>
    simp only [Rep] at p1
    exact ⟨b, p1, h1 z1 b H1 (Ext.refl _) r1 rfl⟩
  | _ => exact h1.elim
theorem z_test (ha : PE X a (tE Γ B W f)) (he : ∀ whole, isTrue a X.env whole = (do let v ← whole; standAt a.pos; holding [v] (truthy v))) : PT X a (tT Γ B W (toB f)) :=
  PT.imp (pt_val ha he) fun _ _ _ hz => toB_conv hz
theorem z_cmpT {op : CmpOp} {r : R2} {k : D → D → Option D} (ho : OpR X (compareOp op) r) (oz : OpZ Γ B r k) (ha : PE X a (tE Γ B W f)) (hb : PE X b (tE Γ B W g)) (hn : behindInMarks op b = false) : PT X (.Compare a [op] [b] pos) (tT Γ B W (toB (zop k f g))) := by
  refine PT.imp (pt_cmpR ho ha hb hn) fun σ H Q hz => ?_
  obtain ⟨m, z, rl, h⟩ := hz
  have h' : Po Γ B W rpB σ z ((f m).bind fun d m1 => ((g m1).bind fun e m2 => ofO (k d e) m2).bind fun d m1 => match d with
    | .bl b => .ok b m1
    | _ => .bad) Q := by
    have e : (toB (zop k f g) m) = ((f m).bind fun d m1 => ((g m1).bind fun e m2 => ofO (k d e) m2).bind fun d m1 => match d with
      | .bl b => .ok b m1
      | _ => .bad) := by
      unfold toB zop
      cases f m <;> rfl
    rw [← e]
    exact h
  refine bnd rl h' fun z1 d m1 x H1 e1 r1 p1 h1 => ?_
  have h1' : Po Γ B W rpB σ z1 ((g m1).bind fun e m2 => (ofO (k d e) m2).bind fun d m1 => match d with
    | .bl b => .ok b m1
    | _ => .bad) Q := by
    cases eg : g m1 with
    | ok => rw [eg] at h1; exact h1
    | exc => rw [eg] at h1; exact h1
    | bad => rw [eg] at h1; exact h1
  refine bnd r1 h1' fun z2 e m2 y H2 e2 r2 p2 h2 => ?_
  cases q : k d e with
  | none => rw [q] at h2; exact h2.elim
  | some c =>
    rw [q] at h2
    refine oz z2 m2 σ H2 d e c x y _ r2 (Rep.mono e2 d p1) p2 q fun z3 v H3 e3 r3 p3 => ?_
    cases c with
    | bl b =>
      simp only [Rep] at p3
      exact ⟨b, p3, h2 z3 b H3 e3 r3 rfl⟩
    | _ => exact h2.elim

/-! ### and, or, not, if -/
def zand (f g : Den) : Den := fun m => (f m).bind fun d m1 => match d with
  | .bl true => g m1
  | .bl false => .ok (.bl false) m1
  | _ => .bad
def zor (f g : Den) : Den := fun m => (f m).bind fun d m1 => match d with
  | .bl false => g m1
  | .bl true => .ok (.bl true) m1
  | _ => .bad
def znot (f : Den) : Den := fun m => (f m).bind fun d m1 => match d with
  | .bl b => .ok (.bl (!b)) m1
  | _ => .bad
def zite (c f g : Den) : Den := fun m => (toB c m).bind fun b m1 => if b = true then f m1 else g m1
variable {rest : List Expr}
theorem z_and (ha : PE X a (tE Γ B W f)) (hb : PE X (.BoolOp .And (b :: rest) pos) (tE Γ B W g)) : PE X (.BoolOp .And (a :: b :: rest) pos) (tE Γ B W (zand f g)) := by
  refine PE.imp (pe_and ha hb) fun σ H Q ⟨m, z, rl, h⟩ => ?_
  refine bnd rl h fun z1 d m1 x H1 e1 r1 p1 h1 => ?_
  cases d with
  | bl b =>
    simp only [Rep] at p1
    refine ⟨b, p1, ?_⟩
    cases b with
    | true => exact ⟨m1, z1, r1, h1⟩
    | false => exact h1 z1 (.bl false) H1 (Ext.refl _) r1 (by simp only [Rep])
  | _ => exact h1.elim
theorem z_or (ha : PE X a (tE Γ B W f)) (hb : PE X (.BoolOp .Or (b :: rest) pos) (tE Γ B W g)) : PE X (.BoolOp .Or (a :: b :: rest) pos) (tE Γ B W (zor f g)) := by
  refine PE.imp (pe_or ha hb) fun σ H Q ⟨m, z, rl, h⟩ => ?_
  refine bnd rl h fun z1 d m1 x H1 e1 r1 p1 h1 => ?_
  cases d with
  | bl b =>
    simp only [Rep] at p1
    refine ⟨b, p1, ?_⟩
    cases b with
    | false => exact ⟨m1, z1, r1, h1⟩
    | true => exact h1 z1 (.bl true) H1 (Ext.refl _) r1 (by simp only [Rep])
  | _ => exact h1.elim
theorem z_not (ha : PE X a (tE Γ B W f)) : PE X (.UnaryOp .Not a pos) (tE Γ B W (znot f)) := by
  refine PE.imp (pe_not ha) fun σ H Q ⟨m, z, rl, h⟩ => ?_
  refine bnd rl h fun z1 d m1 x H1 e1 r1 p1 h1 => ?_
  cases d with
  | bl b =>
    simp only [Rep] at p1
    exact ⟨b, p1, h1 z1 (.bl !b) H1 (Ext.refl _) r1 (by simp only [Rep])⟩
  | _ => exact h1.elim
theorem toB_and {m : M} : toB (zand f g) m = (toB f m).bind fun b m1 => if b = true then toB g m1 else .ok false m1 := by
  unfold toB zand
  cases f m with
  | ok d m1 =>
    cases d with
    | bl b => cases b <;> rfl
    | _ => rfl
  | _ => rfl
theorem toB_or {m : M} : toB (zor f g) m = (toB f m).bind fun b m1 => if b = true then .ok true m1 else toB g m1 := by
  unfold toB zor
  cases f m with
  | ok d m1 =>
    cases d with
    | bl b => cases b <;> rfl
    | _ => rfl
  | _ => rfl
theorem toB_not {m : M} : toB (znot f) m = (toB f m).bind fun b m1 => .ok (!b) m1 := by
  unfold toB znot
  cases f m with
  | ok d m1 =>
    cases d with
    | bl b => cases b <;> rfl
    | _ => rfl
  | _ => rfl
theorem w_and (ha : PT X a (tT Γ B W (toB f))) (hb : PW X (.BoolOp .And (b :: rest) pos) (tT Γ B W (toB g))) : PW X (.BoolOp .And (a :: b :: rest) pos) (tT Γ B W (toB (zand f g))) := by
  refine PW.imp (pw_and ha hb) fun σ H Q ⟨m, z, rl, h⟩ => ?_
  rw [toB_and] at h
  refine bnd rl h fun z1 d m1 x H1 e1 r1 p1 h1 => ?_
  subst p1
  cases x with
  | true => exact ⟨m1, z1, r1, h1⟩
  | false => exact h1 z1 false H1 (Ext.refl _) r1 rfl
theorem w_or (ha : PT X a (tT Γ B W (toB f))) (hb : PW X (.BoolOp .Or (b :: rest) pos) (tT Γ B W (toB g))) : PW X (.BoolOp .Or (a :: b :: rest) pos) (tT Γ B W (toB (zor f g))) := by
  refine PW.imp (pw_or ha hb) fun σ H Q ⟨m, z, rl, h⟩ => ?_
  rw [toB_or] at h
  refine bnd rl h fun z1 d m1 x H1 e1 r1 p1 h1 => ?_
  subst p1
  cases x with
  | false => exact ⟨m1, z1, r1, h1⟩
  | true => exact h1 z1 true H1 (Ext.refl _) r1 rfl
theorem z_notT (ha : PT X a (tT Γ B W (toB f))) : PT X (.UnaryOp .Not a pos) (tT Γ B W (toB (znot f))) := by
  refine PT.imp (pt_not ha) fun σ H Q ⟨m, z, rl, h⟩ => ?_
  rw [toB_not] at h
  refine bnd rl h fun z1 d m1 x H1 e1 r1 p1 h1 => ?_
  subst p1
  exact h1 z1 (!x) H1 (Ext.refl _) r1 rfl
theorem z_ite (hc : PT X c (tT Γ B W (toB h))) (ha : PE X a (tE Γ B W f)) (hb : PE X b (tE Γ B W g)) : PE X (.IfExp c a b pos) (tE Γ B W (zite h f g)) := by
  refine PE.imp (pe_ifExp hc ha hb) fun σ H Q ⟨m, z, rl, h⟩ => ?_
  refine bnd rl h fun z1 d m1 x H1 e1 r1 p1 h1 => ?_
  subst p1
  cases x with
  | true => exact ⟨m1, z1, r1, h1⟩
  | false => exact ⟨m1, z1, r1, h1⟩

/-! ### arguments, displays -/
def znil : DenL := fun m => .ok [] m
def zcons (f : Den) (g : DenL) : DenL := fun m => (f m).bind fun d m1 => (g m1).bind fun ds m2 => .ok (d :: ds) m2
variable {es : List Expr} {fs : DenL} {e : Expr}
theorem z_anil : PA X [] (tA Γ B W znil) := PA.imp pa_nil fun σ H Q ⟨m, z, r, h⟩ => h z [] H (Ext.refl _) r RepL.nil
theorem z_acons (ha : PE X e (tE Γ B W f)) (hr : PA X es (tA Γ B W fs)) (hs : starEach (e :: es) X.env = (false, eval e X.env) :: starEach es X.env) : PA X (e :: es) (tA Γ B W (zcons f fs)) := by
  refine PA.imp (pa_cons ha hr hs) fun σ H Q ⟨m, z, rl, h⟩ => ?_
  refine bnd rl h fun z1 d m1 x H1 e1 r1 p1 h1 => bnd r1 h1 fun z2 ds m2 xs H2 e2 r2 p2 h2 => ?_
  exact h2 z2 (x :: xs) H2 (Ext.refl _) r2 (.cons (Rep.mono e2 d p1) p2)
/-- sizes that stay small -/
def small (n : Nat) : Bool := decide (n ≤ 1000000)
theorem small_le {n : Nat} (h : small n = true) : n ≤ sizeLine := Nat.le_trans (of_decide_eq_true h) (by decide)
theorem small_lt {n : Nat} (h : small n = true) : n < sizeLine := Nat.lt_of_le_of_lt (of_decide_eq_true h) (by decide)
def ztup (fs : DenL) : Den := fun m => (fs m).bind fun ds m1 => if small ds.length = true then .ok (.tup ds) m1 else .bad
def zlstF (fs : DenL) : DenL := fun m => (fs m).bind fun ds m1 => if small ds.length = true then .ok ds m1 else .bad
/-- a new list, frozen at once -/
def frz (f : DenL) : Den := fun m => (f m).bind fun ds m1 => .ok (.lst ds) m1
/-- a new list that becomes a cell -/
def celD (f : DenL) : Den := fun m => (f m).bind fun ds m1 => .ok (.cel m1.S.length) ⟨m1.e, m1.S ++ [ds]⟩
theorem z_tup {x1 : Nat} (ha : PA X es (tA Γ B W fs)) : PE X (.Tuple es x1 pos) (tE Γ B W (ztup fs)) := by
  refine PE.imp (pe_tup ha) fun σ H Q ⟨m, z, rl, h⟩ => ?_
  refine bnd rl h fun z1 ds m1 xs H1 e1 r1 p1 h1 => ?_
  split at h1
  · rename_i hs
    refine ⟨by rw [← p1.length]; exact small_le hs, fun p hp => ?_⟩
    have r2 := r1.grow (o := .tup xs) hp
    have e2 : Ext z1 (z1.add p (.tup xs)) := ext_add (r1.rf.gnone hp)
    refine h1 _ _ _ e2 r2 ?_
    simp only [Rep]
    exact ⟨p, xs, rfl, SqT.of (show upd z1.G p (.tup xs) p = _ from upd_same), RepL.mono e2 ds p1⟩
  · exact h1.elim
theorem z_lstF (ha : PA X es (tA Γ B W fs)) : PE X (.List es pos) (tF Γ B W (zlstF fs)) := by
  refine PE.imp (pe_lst ha) fun σ H Q ⟨m, z, rl, h⟩ => ?_
  refine bnd rl h fun z1 ds m1 xs H1 e1 r1 p1 h1 => ?_
  split at h1
  · rename_i hs
    refine ⟨by rw [← p1.length]; exact small_le hs, fun p hp => ?_⟩
    obtain ⟨r2, l2⟩ := r1.limbo hp p1
    exact h1 z1 _ _ (Ext.refl _) r2 ⟨p, rfl, l2⟩
  · exact h1.elim
theorem z_frz {f : DenL} (h : PE X e (tF Γ B W f)) : PE X e (tE Γ B W (frz f)) := by
  refine PE.imp h fun σ H Q ⟨m, z, rl, h⟩ => ?_
  refine bnd rl h fun z1 ds m1 v H1 e1 r1 p1 h1 => ?_
  obtain ⟨p, rfl, l⟩ := p1
  obtain ⟨z2, x1, x2, x3⟩ := l.freeze r1
  exact h1 z2 _ H1 x1 x2 x3
theorem z_celD {f : DenL} (h : PE X e (tF Γ B W f)) : PE X e (tE Γ B W (celD f)) := by
  refine PE.imp h fun σ H Q ⟨m, z, rl, h⟩ => ?_
  refine bnd rl h fun z1 ds m1 v H1 e1 r1 p1 h1 => ?_
  obtain ⟨p, rfl, l⟩ := p1
  obtain ⟨z2, x1, x2, x3⟩ := l.cel r1
  exact h1 z2 _ H1 x1 x2 x3

/-! ### calls of builtins by values -/
def CallZ (Γ : Gm) (B : Bs) (r : List V → Hp → VK → Prop) (g : List D → Option D) : Prop := ∀ (z : Fz) (m : M) (σ : L2.St) (H : Hp) (ds : List D) (c : D) (xs : List V) (Q : VK), Rl Γ B z m σ H → RepL Γ z ds xs → g ds = some c →
  (∀ z' v H', Ext z z' → Rl Γ B z' m σ H' → Rep Γ z' c v → Q v H') → r xs H Q
def zcb (g : List D → Option D) (fs : DenL) : Den := fun m => (fs m).bind fun ds m1 => ofO (g ds) m1
theorem cb_conv {r : List V → Hp → VK → Prop} {g : List D → Option D} (oz : CallZ Γ B r g) {Q : VK} (hz : tE Γ B W (zcb g fs) σ H Q) : tCB r (tA Γ B W fs) σ H Q := by
  obtain ⟨m, z, rl, h⟩ := hz
  refine bnd rl h fun z1 ds m1 xs H1 e1 r1 p1 h1 => ?_
  cases q : g ds with
  | none => rw [q] at h1; exact h1.elim
  | some c =>
    rw [q] at h1
    exact oz z1 m1 σ H1 ds c xs Q r1 p1 q h1
end
end Z

set_option Elab.async false
set_option linter.all false
set_option maxRecDepth 100000
set_option maxHeartbeats 2000000
/-! Z3: operations by values -/
namespace Z
open PySem PySem.Spec PyProof.Rows L2

section
variable {Γ : Gm} {B : Bs} {W : WX} {X : Cx} {σ : L2.St} {H : Hp} {z z' : Fz} {m : M}

theorem Rep.int {i : Int} {v : V} : Rep Γ z (.int i) v ↔ v = .int i := by simp only [Rep]
theorem Rep.bl {i : Bool} {v : V} : Rep Γ z (.bl i) v ↔ v = .bl i := by simp only [Rep]
theorem Rep.str {i : Str} {v : V} : Rep Γ z (.str i) v ↔ v = .str i := by simp only [Rep]
theorem Rep.non {v : V} : Rep Γ z .non v ↔ v = .non := by simp only [Rep]
theorem Rep.lst {ds : List D} {v : V} : Rep Γ z (.lst ds) v ↔ ∃ a vs, v = .ref a ∧ z.G a = some (.lst vs) ∧ RepL Γ z ds vs := by simp only [Rep]
theorem Rep.tup {ds : List D} {v : V} : Rep Γ z (.tup ds) v ↔ ∃ a vs, v = .ref a ∧ SqT Γ.K z.G a vs ∧ RepL Γ z ds vs := by simp only [Rep]
theorem Rep.cel {n : Nat} {v : V} : Rep Γ z (.cel n) v ↔ ∃ a, v = .ref a ∧ z.r[n]? = some a := by simp only [Rep]
theorem Rep.scr {ns : List Int} {v : V} : Rep Γ z (.scr ns) v ↔ ∃ a, v = .ref a ∧ SqL Γ.K z.G a (ns.map V.int) := by simp only [Rep]
theorem Rl.sqT {ds : List V} {a : Addr} (r : Rl Γ B z m σ H) (h : SqT Γ.K z.G a ds) : SqT Γ.K H a ds := sqT_mono r.rf.sub h
theorem Rl.sqL {ds : List V} {a : Addr} (r : Rl Γ B z m σ H) (h : SqL Γ.K z.G a ds) : SqL Γ.K H a ds := sqL_mono r.rf.sub h

/-! ### + - * // % ** -/
theorem OpR.or {f : Value → Value → Sem Value} {r r' : R2} (h : OpR X f r) (h' : OpR X f r') : OpR X f (fun x y H Q => r x y H Q ∨ r' x y H Q) := by
  intro pins s σ H x y v u Q I rx ry q
  rcases q with q | q
  · exact h pins s σ H x y v u Q I rx ry q
  · exact h' pins s σ H x y v u Q I rx ry q
theorem CallR.or {f : Value} {r r' : List V → Hp → VK → Prop} (h : CallR X f r) (h' : CallR X f r') : CallR X f (fun x H Q => r x H Q ∨ r' x H Q) := by
  intro pins s σ H xs us Q I rx q
  rcases q with q | q
  · exact h pins s σ H xs us Q I rx q
  · exact h' pins s σ H xs us Q I rx q
def addD : D → D → Option D
  | .int a, .int b => some (.int (a + b))
  | .str a, .str b => if small (a.length + b.length) = true then some (.str (a ++ b)) else none
  | .tup a, .tup b => if small (a.length + b.length) = true then some (.tup (a ++ b)) else none
  | .lst a, .lst b => if small (a.length + b.length) = true then some (.lst (a ++ b)) else none
  | _, _ => none
abbrev rAddZ (K : PySem.W.Frag) : R2 := fun x y H Q => (rI0 (fun i j => .int (i + j)) x y H Q ∨ (∃ i j, x = .str i ∧ y = .str j ∧ i.length + j.length ≤ sizeLine ∧ Q (.str (i ++ j)) H)) ∨ (rCatA K x y H Q ∨ rCat x y H Q)
theorem op_addZ : OpR X (binaryOp .Add) (rAddZ X.K) := OpR.or (OpR.or op_add op_add_str) (OpR.or op_catA op_cat)
/-- a new frozen object and what it stands for -/
theorem Rl.newTup {ds : List D} {vs : List V} {p : Addr} (r : Rl Γ B z m σ H) (h : H p = none) (q : RepL Γ z ds vs) : Ext z (z.add p (.tup vs)) ∧ Rl Γ B (z.add p (.tup vs)) m σ (upd H p (.tup vs)) ∧ Rep Γ (z.add p (.tup vs)) (.tup ds) (.ref p) := by
  have e : Ext z (z.add p (.tup vs)) := ext_add (r.rf.gnone h)
  refine ⟨e, r.grow h, Rep.tup.mpr ⟨p, vs, rfl, SqT.of (show upd z.G p (.tup vs) p = _ from upd_same), RepL.mono e ds q⟩⟩
theorem Rl.newLst {ds : List D} {vs : List V} {p : Addr} (r : Rl Γ B z m σ H) (h : H p = none) (q : RepL Γ z ds vs) : Ext z (z.add p (.lst vs)) ∧ Rl Γ B (z.add p (.lst vs)) m σ (upd H p (.lst vs)) ∧ Rep Γ (z.add p (.lst vs)) (.lst ds) (.ref p) := by
  have e : Ext z (z.add p (.lst vs)) := ext_add (r.rf.gnone h)
  refine ⟨e, r.grow h, Rep.lst.mpr ⟨p, vs, rfl, show upd z.G p (.lst vs) p = _ from upd_same, RepL.mono e ds q⟩⟩
theorem RepL.nil_iff {ds : List D} {vs : List V} (h : RepL Γ z ds vs) : ds = [] ↔ vs = [] := by
  have e := h.length
  constructor
  · rintro rfl; exact List.eq_nil_of_length_eq_zero e.symm
  · rintro rfl; exact List.eq_nil_of_length_eq_zero e
theorem oz_add : OpZ Γ B (rAddZ Γ.K) addD := by
  intro z m σ H d e c x y Q rl rd re hc q
  unfold addD at hc
  split at hc
  · cases hc
    rw [Rep.int] at rd re
    exact .inl (.inl ⟨_, _, rd, re, q z _ H (Ext.refl _) rl (Rep.int.mpr rfl)⟩)
  · split at hc
    · rename_i hs
      cases hc
      rw [Rep.str] at rd re
      exact .inl (.inr ⟨_, _, rd, re, small_le hs, q z _ H (Ext.refl _) rl (Rep.str.mpr rfl)⟩)
    · cases hc
  · split at hc
    · rename_i hs
      cases hc
      obtain ⟨p, us, rfl, h1, h2⟩ := Rep.tup.mp rd
      obtain ⟨p', us', rfl, h3, h4⟩ := Rep.tup.mp re
      refine .inr (.inl ⟨p, p', us, us', rfl, rfl, rl.sqT h1, rl.sqT h3, by rw [← h2.length, ← h4.length]; exact small_le hs, fun e0 => ?_, fun _ e0 => ?_, fun _ _ t ht => ?_⟩)
      · refine q z _ H (Ext.refl _) rl ?_
        rw [h2.nil_iff.mpr e0]
        exact re
      · refine q z _ H (Ext.refl _) rl ?_
        rw [h4.nil_iff.mpr e0, List.append_nil]
        exact rd
      · obtain ⟨x1, x2, x3⟩ := rl.newTup ht (h2.append h4)
        exact q _ _ _ x1 x2 x3
    · cases hc
  · split at hc
    · rename_i hs
      cases hc
      obtain ⟨p, us, rfl, h1, h2⟩ := Rep.lst.mp rd
      obtain ⟨p', us', rfl, h3, h4⟩ := Rep.lst.mp re
      refine .inr (.inr ⟨p, p', us, us', rfl, rfl, rl.rf.sub _ _ h1, rl.rf.sub _ _ h3, by rw [← h2.length, ← h4.length]; exact small_le hs, fun t ht => ?_⟩)
      obtain ⟨x1, x2, x3⟩ := rl.newLst ht (h2.append h4)
      exact q _ _ _ x1 x2 x3
    · cases hc
  · cases hc
/-- ints to a value that is no object -/
theorem oz_int {C : Int → Int → Prop} {g : Int → Int → D} {g' : Int → Int → V} {k : D → D → Option D} (hk : ∀ d e c, k d e = some c → ∃ i j, d = .int i ∧ e = .int j ∧ C i j ∧ c = g i j) (hg : ∀ i j z, Rep Γ z (g i j) (g' i j)) : OpZ Γ B (rI C g') k := by
  intro z m σ H d e c x y Q rl rd re hc q
  obtain ⟨i, j, rfl, rfl, h1, rfl⟩ := hk d e c hc
  rw [Rep.int] at rd re
  exact ⟨i, j, rd, re, h1, q z _ H (Ext.refl _) rl (hg i j z)⟩
def subD : D → D → Option D
  | .int a, .int b => some (.int (a - b))
  | _, _ => none
theorem oz_sub : OpZ Γ B (rI0 fun i j => .int (i - j)) subD := by
  intro z m σ H d e c x y Q rl rd re hc q
  unfold subD at hc
  split at hc
  · cases hc
    rw [Rep.int] at rd re
    exact ⟨_, _, rd, re, q z _ H (Ext.refl _) rl (Rep.int.mpr rfl)⟩
  · cases hc
/-- * of ints; a list times an int -/
def mulD : D → D → Option D
  | .int a, .int b => if decide (a.natAbs.log2 + b.natAbs.log2 < 1000000) = true then some (.int (a * b)) else none
  | _, _ => none
theorem oz_mul : OpZ Γ B (rI CMulW fun i j => .int (i * j)) mulD := by
  refine oz_int (g := fun i j => .int (i * j)) (fun d e c hc => ?_) fun i j z => Rep.int.mpr rfl
  unfold mulD at hc
  split at hc
  · split at hc
    · rename_i hs
      cases hc
      have hs' := of_decide_eq_true hs
      exact ⟨_, _, rfl, rfl, hs', rfl⟩
    · cases hc
  · cases hc
def fdivD : D → D → Option D
  | .int a, .int b => if decide (b ≠ 0 ∧ b.natAbs.log2 < 9000) = true then some (.int (a.fdiv b)) else none
  | _, _ => none
def CDivZ (_ j : Int) : Prop := j ≠ 0 ∧ j.natAbs.log2 < 9000
theorem op_fdivZ : OpR X (binaryOp .FloorDiv) (rI CDivZ fun i j => .int (i.fdiv j)) := opI fun _ _ _ _ _ _ _ hc q => floordiv_int hc.1 q (.inl (PyProof.noPylong_of_log2 hc.2))
theorem oz_fdiv : OpZ Γ B (rI CDivZ fun i j => .int (i.fdiv j)) fdivD := by
  refine oz_int (g := fun i j => .int (i.fdiv j)) (fun d e c hc => ?_) fun i j z => Rep.int.mpr rfl
  unfold fdivD at hc
  split at hc
  · split at hc
    · rename_i hs
      cases hc
      have hs' := of_decide_eq_true hs
      exact ⟨_, _, rfl, rfl, hs', rfl⟩
    · cases hc
  · cases hc
def modD : D → D → Option D
  | .int a, .int b => if decide (b ≠ 0) = true then some (.int (a.fmod b)) else none
  | _, _ => none
theorem oz_mod : OpZ Γ B (rI (fun _ j => j ≠ 0) fun i j => .int (i.fmod j)) modD := by
  refine oz_int (g := fun i j => .int (i.fmod j)) (fun d e c hc => ?_) fun i j z => Rep.int.mpr rfl
  unfold modD at hc
  split at hc
  · split at hc
    · rename_i hs
      cases hc
      have hs' := of_decide_eq_true hs
      exact ⟨_, _, rfl, rfl, hs', rfl⟩
    · cases hc
  · cases hc
def powD : D → D → Option D
  | .int a, .int b => if decide (0 ≤ b ∧ (Builtin.Int.intBits a : Int) * b ≤ 2 ^ 27) = true then some (.int (a ^ b.toNat)) else none
  | _, _ => none
def CPowZ (i j : Int) : Prop := 0 ≤ j ∧ (Builtin.Int.intBits i : Int) * j ≤ 2 ^ 27
theorem op_powZ : OpR X (binaryOp .Pow) (rI CPowZ fun i j => .int (i ^ j.toNat)) := opI fun _ _ _ _ _ _ _ hc q => pow_int hc.1 hc.2 q
theorem oz_pow : OpZ Γ B (rI CPowZ fun i j => .int (i ^ j.toNat)) powD := by
  refine oz_int (g := fun i j => .int (i ^ j.toNat)) (fun d e c hc => ?_) fun i j z => Rep.int.mpr rfl
  unfold powD at hc
  split at hc
  · split at hc
    · rename_i hs
      cases hc
      have hs' := of_decide_eq_true hs
      exact ⟨_, _, rfl, rfl, hs', rfl⟩
    · cases hc
  · cases hc
/-! ### < <= > >= of ints -/
def cmpI (p : Int → Int → Bool) : D → D → Option D
  | .int a, .int b => some (.bl (p a b))
  | _, _ => none
theorem oz_cmpI {p : Int → Int → Bool} : OpZ Γ B (rI0 fun i j => .bl (p i j)) (cmpI p) := by
  intro z m σ H d e c x y Q rl rd re hc q
  unfold cmpI at hc
  split at hc
  · cases hc
    rw [Rep.int] at rd re
    exact ⟨_, _, rd, re, q z _ H (Ext.refl _) rl (Rep.bl.mpr rfl)⟩
  · cases hc
abbrev ltD := cmpI fun i j => decide (i < j)
abbrev leD := cmpI fun i j => decide (i ≤ j)
abbrev gtD := cmpI fun i j => decide (j < i)
abbrev geD := cmpI fun i j => decide (j ≤ i)
/-! ### is None -/
def isND : D → D → Option D
  | .non, .non => some (.bl true)
  | _, .non => some (.bl false)
  | _, _ => none
def isNotND : D → D → Option D
  | .non, .non => some (.bl false)
  | _, .non => some (.bl true)
  | _, _ => none
theorem Rep.not_non {d : D} {v : V} (h : Rep Γ z d v) (hd : d ≠ .non) : v ≠ .non := by
  rintro rfl
  cases d with
  | non => exact hd rfl
  | _ => simp [Rep] at h
theorem oz_isN : OpZ Γ B (fun x y H Q => y = .non ∧ Q (.bl (decide (x = .non))) H) isND := by
  intro z m σ H d e c x y Q rl rd re hc q
  unfold isND at hc
  split at hc
  · cases hc
    rw [Rep.non] at rd re
    subst rd
    exact ⟨re, by rw [decide_eq_true rfl]; exact q z _ H (Ext.refl _) rl (Rep.bl.mpr rfl)⟩
  · rename_i hd
    cases hc
    rw [Rep.non] at re
    refine ⟨re, ?_⟩
    rw [decide_eq_false (Rep.not_non rd hd)]
    exact q z _ H (Ext.refl _) rl (Rep.bl.mpr rfl)
  · cases hc
theorem oz_notN : OpZ Γ B (fun x y H Q => y = .non ∧ Q (.bl (!decide (x = .non))) H) isNotND := by
  intro z m σ H d e c x y Q rl rd re hc q
  unfold isNotND at hc
  split at hc
  · cases hc
    rw [Rep.non] at rd re
    subst rd
    exact ⟨re, by rw [decide_eq_true rfl]; exact q z _ H (Ext.refl _) rl (Rep.bl.mpr rfl)⟩
  · rename_i hd
    cases hc
    rw [Rep.non] at re
    refine ⟨re, ?_⟩
    rw [decide_eq_false (Rep.not_non rd hd)]
    exact q z _ H (Ext.refl _) rl (Rep.bl.mpr rfl)
  · cases hc

/-! ### data: == != in -/
mutual
def toP : D → Option PyData
  | .non => some .none
  | .bl b => some (.bool b)
  | .int i => some (.int i)
  | .str x => some (.str x)
  | .tup ds => (toPL ds).map .tuple
  | .lst ds => (toPL ds).map .list
  | _ => none
def toPL : List D → Option (List PyData)
  | [] => some []
  | d :: ds => (toP d).bind fun p => (toPL ds).map fun ps => p :: ps
end
mutual
def eqb : D → D → Bool
  | .non, .non => true
  | .bl a, .bl b => a == b
  | .bl a, .int j => (if a then 1 else 0) == j
  | .int i, .bl b => i == (if b then 1 else 0)
  | .int i, .int j => i == j
  | .str x, .str y => x == y
  | .tup xs, .tup ys => eqbL xs ys
  | .lst xs, .lst ys => eqbL xs ys
  | _, _ => false
def eqbL : List D → List D → Bool
  | [], [] => true
  | x :: xs, y :: ys => eqb x y && eqbL xs ys
  | _, _ => false
end
theorem toPL_len : ∀ {ds : List D} {ps : List PyData}, toPL ds = some ps → ds.length = ps.length
  | [], _, h => by simp [toPL] at h; subst h; rfl
  | d :: ds, _, h => by
    simp only [toPL, Option.bind_eq_some_iff, Option.map_eq_some_iff] at h
    obtain ⟨p, _, ps, h2, rfl⟩ := h
    simp [toPL_len h2]
mutual
theorem eqb_eqv : ∀ (d e : D) (p q : PyData), toP d = some p → toP e = some q → eqb d e = PyData.eqv p q
  | .tup xs, .tup ys, p, q, hp, hq => by
    simp only [toP, Option.map_eq_some_iff] at hp hq
    obtain ⟨ps, h1, rfl⟩ := hp
    obtain ⟨qs, h2, rfl⟩ := hq
    simp only [eqb, PyData.eqv]
    exact eqbL_eqv xs ys ps qs h1 h2
  | .lst xs, .lst ys, p, q, hp, hq => by
    simp only [toP, Option.map_eq_some_iff] at hp hq
    obtain ⟨ps, h1, rfl⟩ := hp
    obtain ⟨qs, h2, rfl⟩ := hq
    simp only [eqb, PyData.eqv]
    exact eqbL_eqv xs ys ps qs h1 h2
  | .non, e, p, q, hp, hq => by
    simp only [toP, Option.some.injEq] at hp; subst hp
    cases e <;> simp [toP] at hq <;> (try obtain ⟨_, _, hq⟩ := hq) <;> (try subst hq) <;> simp [eqb, PyData.eqv]
  | .bl _, e, p, q, hp, hq => by
    simp only [toP, Option.some.injEq] at hp; subst hp
    cases e <;> simp [toP] at hq <;> (try obtain ⟨_, _, hq⟩ := hq) <;> (try subst hq) <;> simp [eqb, PyData.eqv]
  | .int _, e, p, q, hp, hq => by
    simp only [toP, Option.some.injEq] at hp; subst hp
    cases e <;> simp [toP] at hq <;> (try obtain ⟨_, _, hq⟩ := hq) <;> (try subst hq) <;> simp [eqb, PyData.eqv]
  | .str _, e, p, q, hp, hq => by
    simp only [toP, Option.some.injEq] at hp; subst hp
    cases e <;> simp [toP] at hq <;> (try obtain ⟨_, _, hq⟩ := hq) <;> (try subst hq) <;> simp [eqb, PyData.eqv]
  | .tup xs, .non, p, q, hp, hq | .tup xs, .bl _, p, q, hp, hq | .tup xs, .int _, p, q, hp, hq | .tup xs, .str _, p, q, hp, hq | .tup xs, .lst _, p, q, hp, hq => by
    simp only [toP, Option.map_eq_some_iff] at hp
    obtain ⟨ps, h1, rfl⟩ := hp
    simp [toP] at hq
    first | (subst hq; simp [eqb, PyData.eqv]) | (obtain ⟨_, _, hq⟩ := hq; subst hq; simp [eqb, PyData.eqv])
  | .lst xs, .non, p, q, hp, hq | .lst xs, .bl _, p, q, hp, hq | .lst xs, .int _, p, q, hp, hq | .lst xs, .str _, p, q, hp, hq | .lst xs, .tup _, p, q, hp, hq => by
    simp only [toP, Option.map_eq_some_iff] at hp
    obtain ⟨ps, h1, rfl⟩ := hp
    simp [toP] at hq
    first | (subst hq; simp [eqb, PyData.eqv]) | (obtain ⟨_, _, hq⟩ := hq; subst hq; simp [eqb, PyData.eqv])
  | .tup _, .dct _ _, p, q, hp, hq | .tup _, .cel _, p, q, hp, hq | .tup _, .obj _ _, p, q, hp, hq | .tup _, .scr _, p, q, hp, hq => by simp [toP] at hq
  | .lst _, .dct _ _, p, q, hp, hq | .lst _, .cel _, p, q, hp, hq | .lst _, .obj _ _, p, q, hp, hq | .lst _, .scr _, p, q, hp, hq => by simp [toP] at hq
  | .dct _ _, _, p, q, hp, hq => by simp [toP] at hp
  | .cel _, _, p, q, hp, hq => by simp [toP] at hp
  | .obj _ _, _, p, q, hp, hq => by simp [toP] at hp
  | .scr _, _, p, q, hp, hq => by simp [toP] at hp
theorem eqbL_eqv : ∀ (ds es : List D) (ps qs : List PyData), toPL ds = some ps → toPL es = some qs → eqbL ds es = PyData.eqvAll ps qs
  | [], [], _, _, hp, hq => by simp [toPL] at hp hq; subst hp; subst hq; simp [eqbL, PyData.eqvAll]
  | [], e :: es, _, _, hp, hq => by
    simp only [toPL, Option.bind_eq_some_iff, Option.map_eq_some_iff] at hp hq
    obtain ⟨q, _, qs, _, rfl⟩ := hq
    simp at hp; subst hp; simp [eqbL, PyData.eqvAll]
  | d :: ds, [], _, _, hp, hq => by
    simp only [toPL, Option.bind_eq_some_iff, Option.map_eq_some_iff] at hp hq
    obtain ⟨p, _, ps, _, rfl⟩ := hp
    simp at hq; subst hq; simp [eqbL, PyData.eqvAll]
  | d :: ds, e :: es, _, _, hp, hq => by
    simp only [toPL, Option.bind_eq_some_iff, Option.map_eq_some_iff] at hp hq
    obtain ⟨p, h1, ps, h2, rfl⟩ := hp
    obtain ⟨q, h3, qs, h4, rfl⟩ := hq
    simp only [eqbL, PyData.eqvAll, eqb_eqv d e p q h1 h3, eqbL_eqv ds es ps qs h2 h4]
end
mutual
theorem Rep.dp (sub : ∀ a o, z.G a = some o → H a = some o) : ∀ (d : D) (p : PyData) (v : V), Rep Γ z d v → toP d = some p → Dp Γ.K H v p
  | .non, _, _, h, e => by simp only [toP, Option.some.injEq] at e; subst e; rw [Rep.non.mp h]; exact .non
  | .bl b, _, _, h, e => by simp only [toP, Option.some.injEq] at e; subst e; rw [Rep.bl.mp h]; exact .bl b
  | .int i, _, _, h, e => by simp only [toP, Option.some.injEq] at e; subst e; rw [Rep.int.mp h]; exact .int i
  | .str x, _, _, h, e => by simp only [toP, Option.some.injEq] at e; subst e; rw [Rep.str.mp h]; exact .str x
  | .tup ds, _, _, h, e => by
    simp only [toP, Option.map_eq_some_iff] at e
    obtain ⟨ps, e, rfl⟩ := e
    obtain ⟨a, vs, rfl, h1, h2⟩ := Rep.tup.mp h
    exact .tup (sqT_mono sub h1) (RepL.dp sub ds ps vs h2 e)
  | .lst ds, _, _, h, e => by
    simp only [toP, Option.map_eq_some_iff] at e
    obtain ⟨ps, e, rfl⟩ := e
    obtain ⟨a, vs, rfl, h1, h2⟩ := Rep.lst.mp h
    exact .lst (SqL.of (sub _ _ h1)) (RepL.dp sub ds ps vs h2 e)
  | .dct _ _, _, _, _, e => by simp [toP] at e
  | .cel _, _, _, _, e => by simp [toP] at e
  | .obj _ _, _, _, _, e => by simp [toP] at e
  | .scr _, _, _, _, e => by simp [toP] at e
theorem RepL.dp (sub : ∀ a o, z.G a = some o → H a = some o) : ∀ (ds : List D) (ps : List PyData) (vs : List V), RepL Γ z ds vs → toPL ds = some ps → DpAll Γ.K H vs ps
  | [], _, _, h, e => by simp only [toPL, Option.some.injEq] at e; subst e; simp only [RepL] at h; subst h; exact .nil
  | d :: ds, _, _, h, e => by
    simp only [toPL, Option.bind_eq_some_iff, Option.map_eq_some_iff] at e
    obtain ⟨p, e1, ps, e2, rfl⟩ := e
    simp only [RepL] at h
    obtain ⟨v, ws, rfl, h2, h3⟩ := h
    exact .cons (Rep.dp sub d p v h2 e1) (RepL.dp sub ds ps ws h3 e2)
end
/-- plain data, no deeper than 64 -/
def okD (d : D) : Bool := match toP d with
  | some p => SeqAt.shaped p
  | none => false
theorem okD_of {d : D} (h : okD d = true) : ∃ p, toP d = some p ∧ SeqAt.shaped p = true := by
  unfold okD at h
  split at h
  · rename_i p e; exact ⟨p, e, h⟩
  · cases h
def eqD : D → D → Option D
  | .str x, .str y => some (.bl (x == y))
  | d, e => if (okD d && okD e) = true then some (.bl (eqb d e)) else none
def neD : D → D → Option D
  | .str x, .str y => some (.bl (!(x == y)))
  | d, e => if (okD d && okD e) = true then some (.bl (!eqb d e)) else none
abbrev rEqZ (K : PySem.W.Frag) : R2 := fun x y H Q => rEq x y H Q ∨ rEqD K x y H Q
abbrev rNeZ (K : PySem.W.Frag) : R2 := fun x y H Q => rNe x y H Q ∨ rNeD K x y H Q
theorem op_eqZ (hu : X.A.units + 64 < cLine) : OpR X (compareOp .Eq) (rEqZ X.K) := OpR.or op_eq (op_eqD hu)
theorem op_neZ (hu : X.A.units + 64 < cLine) : OpR X (compareOp .NotEq) (rNeZ X.K) := OpR.or op_ne (op_neD hu)
theorem oz_eq : OpZ Γ B (rEqZ Γ.K) eqD := by
  intro z m σ H d e c x y Q rl rd re hc q
  unfold eqD at hc
  split at hc
  · cases hc
    rw [Rep.str] at rd re
    subst rd; subst re
    exact .inl ⟨rfl, by rw [dec_str]; exact q z _ H (Ext.refl _) rl (Rep.bl.mpr rfl)⟩
  · split at hc
    · rename_i hs
      cases hc
      rw [Bool.and_eq_true] at hs
      obtain ⟨p, h1, h2⟩ := okD_of hs.1
      obtain ⟨p', h3, h4⟩ := okD_of hs.2
      refine .inr ⟨p, p', Rep.dp rl.rf.sub d p x rd h1, Rep.dp rl.rf.sub e p' y re h3, h2, h4, ?_⟩
      rw [← eqb_eqv d e p p' h1 h3]
      exact q z _ H (Ext.refl _) rl (Rep.bl.mpr rfl)
    · cases hc
theorem oz_ne : OpZ Γ B (rNeZ Γ.K) neD := by
  intro z m σ H d e c x y Q rl rd re hc q
  unfold neD at hc
  split at hc
  · cases hc
    rw [Rep.str] at rd re
    subst rd; subst re
    exact .inl ⟨rfl, by rw [dec_str]; exact q z _ H (Ext.refl _) rl (Rep.bl.mpr rfl)⟩
  · split at hc
    · rename_i hs
      cases hc
      rw [Bool.and_eq_true] at hs
      obtain ⟨p, h1, h2⟩ := okD_of hs.1
      obtain ⟨p', h3, h4⟩ := okD_of hs.2
      refine .inr ⟨p, p', Rep.dp rl.rf.sub d p x rd h1, Rep.dp rl.rf.sub e p' y re h3, h2, h4, ?_⟩
      rw [← eqb_eqv d e p p' h1 h3]
      exact q z _ H (Ext.refl _) rl (Rep.bl.mpr rfl)
    · cases hc
/-! ### x[i], x[a:b] -/
theorem atI_rep {ds : List D} {vs : List V} {i : Int} {d : D} (h : RepL Γ z ds vs) (e : atI ds i = some d) : ∃ v, atI vs i = some v ∧ Rep Γ z d v := by
  unfold atI at e ⊢
  rw [h.length] at e
  cases k : ixN vs.length i with
  | none => rw [k] at e; cases e
  | some j =>
    rw [k] at e
    exact h.get e
def idxD : D → D → Option D
  | .tup xs, .int i => atI xs i
  | .lst xs, .int i => atI xs i
  | .scr ns, .int i => (atI ns i).map .int
  | .str s, .int i => if small s.length = true then (atI s.cps.toList i).map fun c => .str ⟨#[c]⟩ else none
  | _, _ => none
theorem atI_map {α β : Type} (f : α → β) (xs : List α) (i : Int) : atI (xs.map f) i = (atI xs i).map f := by
  unfold atI
  rw [List.length_map]
  cases ixN xs.length i with
  | none => rfl
  | some j => simp
theorem oz_idx : OpZ Γ B (rIx Γ.K) idxD := by
  intro z m σ H d e c x y Q rl rd re hc q
  unfold idxD at hc
  split at hc
  · obtain ⟨p, us, rfl, h1, h2⟩ := Rep.tup.mp rd
    obtain ⟨v, h3, h4⟩ := atI_rep h2 hc
    exact .inr (.inl ⟨p, us, _, v, rfl, Rep.int.mp re, rl.sqT h1, h3, q z v H (Ext.refl _) rl h4⟩)
  · obtain ⟨p, us, rfl, h1, h2⟩ := Rep.lst.mp rd
    obtain ⟨v, h3, h4⟩ := atI_rep h2 hc
    exact .inl ⟨p, us, _, v, rfl, Rep.int.mp re, SqL.of (rl.rf.sub _ _ h1), h3, q z v H (Ext.refl _) rl h4⟩
  · rename_i ns i
    obtain ⟨p, rfl, h1⟩ := Rep.scr.mp rd
    obtain ⟨n, h2, rfl⟩ := Option.map_eq_some_iff.mp hc
    exact .inl ⟨p, ns.map V.int, i, .int n, rfl, Rep.int.mp re, rl.sqL h1, by rw [atI_map, h2]; rfl, q z _ H (Ext.refl _) rl (Rep.int.mpr rfl)⟩
  · rename_i s i
    split at hc
    · rename_i hs
      obtain ⟨ch, h2, rfl⟩ := Option.map_eq_some_iff.mp hc
      exact .inr (.inr ⟨s, i, ch, Rep.str.mp rd, Rep.int.mp re, small_le hs, h2, q z _ H (Ext.refl _) rl (Rep.str.mpr rfl)⟩)
    · cases hc
  · cases hc
variable {a b : Expr} {f g : Den} {pos : Pos}
theorem z_idx (hK : X.K = Γ.K) (ha : PE X a (tE Γ B W f)) (hb : PE X b (tE Γ B W g)) (hs : PlainIx b) : PE X (.Subscript a b pos) (tE Γ B W (zop idxD f g)) :=
  PE.imp (pe_ix ix_seq ha hb hs) fun _ _ _ hz => op_conv (by rw [hK]; exact oz_idx) hz
/-! ### builtins -/
def negD : List D → Option D
  | [.int i] => some (.int (-i))
  | _ => none
def zneg (f : Den) : Den := fun m => (f m).bind fun d m1 => match d with
  | .int i => .ok (.int (-i)) m1
  | _ => .bad
theorem z_neg (ha : PE X a (tE Γ B W f)) : PE X (.UnaryOp .USub a pos) (tE Γ B W (zneg f)) := by
  refine PE.imp (pe_un un_neg ha) fun σ H Q ⟨m, z, rl, h⟩ => ?_
  refine bnd rl h fun z1 d m1 x H1 e1 r1 p1 h1 => ?_
  cases d with
  | int i => exact ⟨i, Rep.int.mp p1, h1 z1 _ H1 (Ext.refl _) r1 (Rep.int.mpr rfl)⟩
  | _ => exact h1.elim
def lenD : List D → Option D
  | [.tup xs] => some (.int xs.length)
  | [.lst xs] => some (.int xs.length)
  | [.scr xs] => some (.int xs.length)
  | [.str s] => if small s.length = true then some (.int s.length) else none
  | _ => none
abbrev rLenZ (K : PySem.W.Frag) : List V → Hp → VK → Prop := fun xs H Q => (∃ p ys, xs = [.ref p] ∧ (SqL K H p ys ∨ SqT K H p ys) ∧ Q (.int ys.length) H) ∨ (∃ z, xs = [.str z] ∧ z.length ≤ sizeLine ∧ Q (.int z.length) H)
theorem cr_lenZ : CallR X (.builtin "len") (rLenZ X.K) := CallR.or call_len_seq call_len_str
theorem cz_len : CallZ Γ B (rLenZ Γ.K) lenD := by
  intro z m σ H ds c xs Q rl rd hc q
  unfold lenD at hc
  split at hc
  · cases hc
    obtain ⟨v, rfl, h⟩ := rd.one
    obtain ⟨p, us, rfl, h1, h2⟩ := Rep.tup.mp h
    exact .inl ⟨p, us, rfl, .inr (rl.sqT h1), q z _ H (Ext.refl _) rl (Rep.int.mpr (by rw [h2.length]))⟩
  · cases hc
    obtain ⟨v, rfl, h⟩ := rd.one
    obtain ⟨p, us, rfl, h1, h2⟩ := Rep.lst.mp h
    exact .inl ⟨p, us, rfl, .inl (SqL.of (rl.rf.sub _ _ h1)), q z _ H (Ext.refl _) rl (Rep.int.mpr (by rw [h2.length]))⟩
  · cases hc
    obtain ⟨v, rfl, h⟩ := rd.one
    obtain ⟨p, rfl, h1⟩ := Rep.scr.mp h
    exact .inl ⟨p, _, rfl, .inl (rl.sqL h1), q z _ H (Ext.refl _) rl (Rep.int.mpr (by rw [List.length_map]))⟩
  · split at hc
    · rename_i hs
      cases hc
      obtain ⟨v, rfl, h⟩ := rd.one
      exact .inr ⟨_, by rw [Rep.str.mp h], small_le hs, q z _ H (Ext.refl _) rl (Rep.int.mpr rfl)⟩
    · cases hc
  · cases hc
def absD : List D → Option D
  | [.int i] => some (.int (if i < 0 then -i else i))
  | _ => none
theorem cz_abs : CallZ Γ B (fun xs H Q => ∃ i, xs = [.int i] ∧ Q (.int (if i < 0 then -i else i)) H) absD := by
  intro z m σ H ds c xs Q rl rd hc q
  unfold absD at hc
  split at hc
  · cases hc
    obtain ⟨v, rfl, h⟩ := rd.one
    exact ⟨_, by rw [Rep.int.mp h], q z _ H (Ext.refl _) rl (Rep.int.mpr rfl)⟩
  · cases hc
def intD : List D → Option D
  | [.int i] => some (.int i)
  | [.bl k] => some (.int (if k then 1 else 0))
  | _ => none
theorem cz_int : CallZ Γ B (fun xs H Q => (∃ i, xs = [.int i] ∧ Q (.int i) H) ∨ ∃ k, xs = [.bl k] ∧ Q (.int (if k then 1 else 0)) H) intD := by
  intro z m σ H ds c xs Q rl rd hc q
  unfold intD at hc
  split at hc
  · cases hc
    obtain ⟨v, rfl, h⟩ := rd.one
    exact .inl ⟨_, by rw [Rep.int.mp h], q z _ H (Ext.refl _) rl (Rep.int.mpr rfl)⟩
  · cases hc
    obtain ⟨v, rfl, h⟩ := rd.one
    exact .inr ⟨_, by rw [Rep.bl.mp h], q z _ H (Ext.refl _) rl (Rep.int.mpr rfl)⟩
  · cases hc
def maxD : List D → Option D
  | [.int i, .int j] => some (.int (if j > i then j else i))
  | _ => none
theorem cz_max : CallZ Γ B (fun xs H Q => ∃ i j, xs = [.int i, .int j] ∧ Q (.int (if j > i then j else i)) H) maxD := by
  intro z m σ H ds c xs Q rl rd hc q
  unfold maxD at hc
  split at hc
  · cases hc
    obtain ⟨v, u, rfl, h, h'⟩ := rd.two
    exact ⟨_, _, by rw [Rep.int.mp h, Rep.int.mp h'], q z _ H (Ext.refl _) rl (Rep.int.mpr rfl)⟩
  · cases hc
def minD : List D → Option D
  | [.int i, .int j] => some (.int (if j < i then j else i))
  | _ => none
theorem cz_min : CallZ Γ B (fun xs H Q => ∃ i j, xs = [.int i, .int j] ∧ Q (.int (if j < i then j else i)) H) minD := by
  intro z m σ H ds c xs Q rl rd hc q
  unfold minD at hc
  split at hc
  · cases hc
    obtain ⟨v, u, rfl, h, h'⟩ := rd.two
    exact ⟨_, _, by rw [Rep.int.mp h, Rep.int.mp h'], q z _ H (Ext.refl _) rl (Rep.int.mpr rfl)⟩
  · cases hc
def tupleD : List D → Option D
  | [.tup xs] => some (.tup xs)
  | [.lst xs] => some (.tup xs)
  | _ => none
abbrev rTupleZ (K : PySem.W.Frag) : List V → Hp → VK → Prop := fun xs H Q => ∃ p ys, xs = [.ref p] ∧ ((SqL K H p ys ∧ ∀ l, H l = none → Q (.ref l) (upd H l (.tup ys))) ∨ (SqT K H p ys ∧ Q (.ref p) H))
theorem cz_tuple : CallZ Γ B (rTupleZ Γ.K) tupleD := by
  intro z m σ H ds c xs Q rl rd hc q
  unfold tupleD at hc
  split at hc
  · cases hc
    obtain ⟨v, rfl, h⟩ := rd.one
    obtain ⟨p, us, rfl, h1, h2⟩ := Rep.tup.mp h
    exact ⟨p, us, rfl, .inr ⟨rl.sqT h1, q z _ H (Ext.refl _) rl h⟩⟩
  · cases hc
    obtain ⟨v, rfl, h⟩ := rd.one
    obtain ⟨p, us, rfl, h1, h2⟩ := Rep.lst.mp h
    refine ⟨p, us, rfl, .inl ⟨SqL.of (rl.rf.sub _ _ h1), fun t ht => ?_⟩⟩
    obtain ⟨x1, x2, x3⟩ := rl.newTup ht h2
    exact q _ _ _ x1 x2 x3
  · cases hc
/-- the bools of a list -/
def boolsD : List D → Option (List Bool)
  | [] => some []
  | .bl b :: ds => (boolsD ds).map fun bs => b :: bs
  | _ :: _ => none
theorem bools_rep : ∀ {ds : List D} {vs : List V} {bs : List Bool}, RepL Γ z ds vs → boolsD ds = some bs → vs = bs.map V.bl
  | [], _, _, h, e => by simp only [boolsD, Option.some.injEq] at e; subst e; simp only [RepL] at h; subst h; rfl
  | .bl b :: ds, _, _, h, e => by
    simp only [boolsD, Option.map_eq_some_iff] at e
    obtain ⟨bs, e, rfl⟩ := e
    simp only [RepL] at h
    obtain ⟨v, ws, rfl, h2, h3⟩ := h
    rw [Rep.bl.mp h2, bools_rep h3 e]; rfl
  | .non :: _, _, _, _, e => by simp [boolsD] at e
  | .int _ :: _, _, _, _, e => by simp [boolsD] at e
  | .str _ :: _, _, _, _, e => by simp [boolsD] at e
  | .tup _ :: _, _, _, _, e => by simp [boolsD] at e
  | .lst _ :: _, _, _, _, e => by simp [boolsD] at e
  | .dct _ _ :: _, _, _, _, e => by simp [boolsD] at e
  | .cel _ :: _, _, _, _, e => by simp [boolsD] at e
  | .obj _ _ :: _, _, _, _, e => by simp [boolsD] at e
  | .scr _ :: _, _, _, _, e => by simp [boolsD] at e
def allD : List D → Option D
  | [.lst xs] => (boolsD xs).map fun bs => .bl (bs.all id)
  | _ => none
def anyD : List D → Option D
  | [.lst xs] => (boolsD xs).map fun bs => .bl (bs.any id)
  | _ => none
theorem cz_all : CallZ Γ B (rAll Γ.K) allD := by
  intro z m σ H ds c xs Q rl rd hc q
  unfold allD at hc
  split at hc
  · obtain ⟨bs, hb, rfl⟩ := Option.map_eq_some_iff.mp hc
    obtain ⟨v, rfl, h⟩ := rd.one
    obtain ⟨p, us, rfl, h1, h2⟩ := Rep.lst.mp h
    have e := bools_rep h2 hb
    subst e
    exact ⟨p, bs, rfl, SqL.of (rl.rf.sub _ _ h1), q z _ H (Ext.refl _) rl (Rep.bl.mpr rfl)⟩
  · cases hc
theorem cz_any : CallZ Γ B (rAny Γ.K) anyD := by
  intro z m σ H ds c xs Q rl rd hc q
  unfold anyD at hc
  split at hc
  · obtain ⟨bs, hb, rfl⟩ := Option.map_eq_some_iff.mp hc
    obtain ⟨v, rfl, h⟩ := rd.one
    obtain ⟨p, us, rfl, h1, h2⟩ := Rep.lst.mp h
    have e := bools_rep h2 hb
    subst e
    exact ⟨p, bs, rfl, SqL.of (rl.rf.sub _ _ h1), q z _ H (Ext.refl _) rl (Rep.bl.mpr rfl)⟩
  · cases hc
end
end Z

set_option Elab.async false
set_option linter.all false
set_option maxRecDepth 100000
set_option maxHeartbeats 2000000
/-! Z4: statements, loops, comprehensions -/
namespace Z
open PySem PySem.Spec PyProof.Rows L2 RZ

inductive RS where
  | nx (m : M) | rt (d : D) (m : M) | bk (m : M) | ct (m : M) | exc (c : Nat) (d : D) (m : M) | bad
def R.thenS {α : Type} (r : R α) (k : α → M → RS) : RS := match r with
  | .ok a m => k a m
  | .exc c d m => .exc c d m
  | .bad => .bad
abbrev DenS := M → RS
/-- a dict's keys: texts and numbers -/
def keyOf2 : D → Option Key
  | .int i => some (.inl i)
  | .str x => some (.inr x)
  | _ => none
def keysL : List D → Option (List Key)
  | [] => some []
  | d :: ds => (keyOf2 d).bind fun k => (keysL ds).map (k :: ·)
/-- how a value is returned: frozen, or as a new dict -/
def RtOk (Γ : Gm) (B : Bs) (z : Fz) (m : M) (σ : L2.St) (H : Hp) (d : D) (v : V) : Prop := match B.fr with
  | false => Rep Γ z d v
  | true => ∀ ks xs kk, d = .dct ks xs → keysL ks = some kk → kk.length = xs.length → ∃ p, v = .ref p ∧ LimB Γ B z m σ H p (.k kk) xs
theorem RtOk.of {Γ : Gm} {B : Bs} {z : Fz} {m : M} {σ : L2.St} {H : Hp} {d : D} {v : V} (hf : B.fr = false) (h : Rep Γ z d v) : RtOk Γ B z m σ H d v := by
  unfold RtOk
  rw [hf]
  exact h
section
variable (Γ : Gm) (B : Bs) (W : WX)
def PoS (E : Ends) (z : Fz) (r : RS) : Prop := match r with
  | .nx m => ∀ z' σ' H', Ext z z' → Rl Γ B z' m σ' H' → E.nx σ' H'
  | .rt d m => ∀ z' v σ' H', Ext z z' → Rl Γ B z' m σ' H' → RtOk Γ B z' m σ' H' d v → E.rt v H'
  | .bk m => ∀ z' σ' H', Ext z z' → Rl Γ B z' m σ' H' → E.bk σ' H'
  | .ct m => ∀ z' σ' H', Ext z z' → Rl Γ B z' m σ' H' → E.ct σ' H'
  | .exc c d m => ∀ z' dx u σ' H', Ext z z' → Rl Γ B z' m σ' H' → z'.G dx = some (.xd [(("value" : Str), u)]) → Rep Γ z' d u → W (.ref (Γ.cls c)) (some dx) σ' H'
  | .bad => False
def tS (f : DenS) : TS := fun E σ H => ∃ m z, Rl Γ B z m σ H ∧ PoS Γ B W E z (f m)
/-- slots that are not in own stand -/
def Only (own : List Nat) (σ σ' : L2.St) : Prop := σ'.length = σ.length ∧ ∀ j : Nat, j ∉ own → σ'[j]? = σ[j]?
abbrev Tg := D → M → Option M
abbrev Tgs := List D → M → Option M
def tG (own : List Nat) (g : Tg) : TG := fun v σ H Q => ∃ m z d m', Rl Γ B z m σ H ∧ Rep Γ z d v ∧ g d m = some m' ∧ ∀ z' σ' H', Ext z z' → Rl Γ B z' m' σ' H' → Only own σ σ' → Q σ' H'
def tGs (own : List Nat) (g : Tgs) : TGs := fun vs σ H Q => ∃ m z ds m', Rl Γ B z m σ H ∧ RepL Γ z ds vs ∧ g ds m = some m' ∧ ∀ z' σ' H', Ext z z' → Rl Γ B z' m' σ' H' → Only own σ σ' → Q σ' H'
end
/-- what a loop walks: these data, whatever is laid besides -/
structure Wk (Γ : Gm) (z : Fz) (J : It) (ds : List D) : Prop where
  go : ∀ (i : Nat) (H : Hp), i < ds.length → (∀ a o, z.G a = some o → H a = some o) → J.go i H
  stop : ∀ (H : Hp), (∀ a o, z.G a = some o → H a = some o) → J.stop ds.length H
  yld : ∀ (i : Nat) (H : Hp) (x : V) (H' : Hp), i < ds.length → (∀ a o, z.G a = some o → H a = some o) → J.yld i H x H' → ∃ d, ds[i]? = some d ∧
    ((H' = H ∧ Rep Γ z d x) ∨ ∃ T es vs, H T = none ∧ H' = upd H T (.tup vs) ∧ x = .ref T ∧ d = .tup es ∧ RepL Γ z es vs)
abbrev rpW (Γ : Gm) : RpT (List D) It := fun z _ _ _ ds J => Wk Γ z J ds
abbrev tI (Γ : Gm) (B : Bs) (W : WX) (f : DenL) : TI := tZ Γ B W (rpW Γ) f

section
variable {Γ : Gm} {B : Bs} {W : WX} {X : Cx} {σ : L2.St} {H : Hp} {z z' : Fz} {m : M}
theorem PoS.mono {E : Ends} {r : RS} (h : PoS Γ B W E z r) (e : Ext z z') : PoS Γ B W E z' r := by
  cases r with
  | nx m => exact fun z1 σ1 H1 e1 => h z1 σ1 H1 (e.trans e1)
  | rt d m => exact fun z1 v σ1 H1 e1 => h z1 v σ1 H1 (e.trans e1)
  | bk m => exact fun z1 σ1 H1 e1 => h z1 σ1 H1 (e.trans e1)
  | ct m => exact fun z1 σ1 H1 e1 => h z1 σ1 H1 (e.trans e1)
  | exc c d m => exact fun z1 dx u σ1 H1 e1 => h z1 dx u σ1 H1 (e.trans e1)
  | bad => exact h
theorem bndS {α β : Type} {rep : RpT α β} {f : M → R α} {k : α → M → RS} {E : Ends} {Q' : β → Hp → Prop} (r : Rl Γ B z m σ H) (h : PoS Γ B W E z ((f m).thenS k))
    (hq : ∀ z1 a m1 b H1, Ext z z1 → Rl Γ B z1 m1 σ H1 → rep z1 m1 σ H1 a b → PoS Γ B W E z1 (k a m1) → Q' b H1) : tZ Γ B W rep f σ H Q' := by
  refine ⟨m, z, r, ?_⟩
  cases e : f m with
  | ok a m1 =>
    rw [e] at h
    exact fun z1 b H1 e1 r1 q => hq z1 a m1 b H1 e1 r1 q (PoS.mono h e1)
  | exc c d m1 =>
    rw [e] at h
    exact fun z1 dx u H1 e1 r1 => h z1 dx u σ H1 e1 r1
  | bad =>
    rw [e] at h
    exact h
theorem PS.imp {e : Stmt} {t t' : TS} (h : PS X e t) (q : ∀ E σ H, t' E σ H → t E σ H) : PS X e t' := ⟨fun pins s σ H E I w => h.run pins s σ H E I (q E σ H w)⟩
theorem PSs.imp {e : List Stmt} {t t' : TS} (h : PSs X e t) (q : ∀ E σ H, t' E σ H → t E σ H) : PSs X e t' := ⟨fun pins s σ H E I w => h.run pins s σ H E I (q E σ H w)⟩
theorem PG.imp {e : Expr} {t t' : TG} (h : PG X e t) (q : ∀ v σ H Q, t' v σ H Q → t v σ H Q) : PG X e t' := ⟨fun pins s σ H v u Q I r w => h.run pins s σ H v u Q I r (q v σ H Q w)⟩
theorem PGs.imp {e : List Expr} {t t' : TGs} (h : PGs X e t) (q : ∀ v σ H Q, t' v σ H Q → t v σ H Q) : PGs X e t' := ⟨fun pins s σ H v u Q I r w => h.run pins s σ H v u Q I r (q v σ H Q w)⟩
theorem PI.imp {tg e : Expr} {t t' : TI} (h : PI X tg e t) (q : ∀ σ H Q, t' σ H Q → t σ H Q) : PI X tg e t' := ⟨fun pins s σ H Q I w => h.run pins s σ H Q I (q σ H Q w)⟩
theorem PI.or {tg e : Expr} {t t' : TI} (h : PI X tg e t) (h' : PI X tg e t') : PI X tg e (fun σ H Q => t σ H Q ∨ t' σ H Q) := ⟨fun pins s σ H Q I w => w.elim (h.run pins s σ H Q I) (h'.run pins s σ H Q I)⟩
theorem PE.or {e : Expr} {t t' : TE} (h : PE X e t) (h' : PE X e t') : PE X e (fun σ H Q => t σ H Q ∨ t' σ H Q) := ⟨fun pins s σ H Q I w => w.elim (h.run pins s σ H Q I) (h'.run pins s σ H Q I)⟩

/-! ### blocks, return, if, while -/
def znext : DenS := fun m => .nx m
def zseq (f g : DenS) : DenS := fun m => match f m with
  | .nx m1 => g m1
  | r => r
variable {st : Stmt} {rest : List Stmt} {f g : DenS} {a c : Expr} {k h : Den} {pos : Pos}
theorem z_nil : PSs X [] (tS Γ B W znext) := PSs.imp pss_nil fun E σ H ⟨m, z, rl, h⟩ => h z σ H (Ext.refl _) rl
theorem seq_conv {E : Ends} (h : PoS Γ B W E z (zseq f g m)) : PoS Γ B W { E with nx := tS Γ B W g E } z (f m) := by
  unfold zseq at h
  cases e : f m with
  | nx m1 => rw [e] at h; exact fun z1 σ1 H1 e1 r1 => ⟨m1, z1, r1, PoS.mono h e1⟩
  | rt d m1 => rw [e] at h; exact h
  | bk m1 => rw [e] at h; exact h
  | ct m1 => rw [e] at h; exact h
  | exc c d m1 => rw [e] at h; exact h
  | bad => rw [e] at h; exact h
theorem z_seq (h1 : PS X st (tS Γ B W f)) (h2 : PSs X rest (tS Γ B W g)) : PSs X (st :: rest) (tS Γ B W (zseq f g)) :=
  PSs.imp (pss_cons h1 h2) fun E σ H ⟨m, z, rl, h⟩ => ⟨m, z, rl, seq_conv h⟩
def zret (k : Den) : DenS := fun m => (k m).thenS fun d m1 => .rt d m1
def zpass : DenS := fun m => .nx m
theorem z_ret (ha : PE X a (tE Γ B W k)) (hf : B.fr = false := by rfl) : PS X (.Return (some a) pos) (tS Γ B W (zret k)) := by
  refine PS.imp (ps_ret ha) fun E σ H ⟨m, z, rl, h⟩ => ?_
  exact bndS rl h fun z1 d m1 x H1 e1 r1 p1 h1 => h1 z1 x σ H1 (Ext.refl _) r1 (RtOk.of hf p1)
theorem z_retN (hf : B.fr = false := by rfl) : PS X (.Return none pos) (tS Γ B W (zret (zk .non))) := PS.imp ps_retN fun E σ H ⟨m, z, rl, h⟩ => h z .non σ H (Ext.refl _) rl (RtOk.of hf (Rep.non.mpr rfl))
theorem z_pass : PS X (.Pass pos) (tS Γ B W zpass) := PS.imp ps_pass fun E σ H ⟨m, z, rl, h⟩ => h z σ H (Ext.refl _) rl
def zif (c : Den) (f g : DenS) : DenS := fun m => (toB c m).thenS fun b m1 => if b = true then f m1 else g m1
theorem z_if {as bs : List Stmt} (hc : PT X c (tT Γ B W (toB h))) (ha : PSs X as (tS Γ B W f)) (hb : PSs X bs (tS Γ B W g)) : PS X (.If c as bs pos) (tS Γ B W (zif h f g)) := by
  refine PS.imp (ps_if hc ha hb) fun E σ H ⟨m, z, rl, h⟩ => ?_
  refine bndS rl h fun z1 d m1 x H1 e1 r1 p1 h1 => ?_
  subst p1
  cases x with
  | true => exact ⟨m1, z1, r1, h1⟩
  | false => exact ⟨m1, z1, r1, h1⟩
def zexpr (k : Den) : DenS := fun m => (k m).thenS fun _ m1 => .nx m1
theorem z_expr (ha : PE X a (tE Γ B W k)) (hs : swapsWith a none pos.line X.env = pure false) : PS X (.Expr a pos) (tS Γ B W (zexpr k)) := by
  refine PS.imp (ps_expr ha hs) fun E σ H ⟨m, z, rl, h⟩ => ?_
  exact bndS rl h fun z1 d m1 x H1 e1 r1 p1 h1 => h1 z1 σ H1 (Ext.refl _) r1
/-- at most n turns -/
def whileL (c : Den) (f : DenS) : Nat → DenS
  | 0, _ => .bad
  | n + 1, m => (toB c m).thenS fun b m1 => if b = true then (match f m1 with
      | .nx m2 => whileL c f n m2
      | .ct m2 => whileL c f n m2
      | .bk m2 => .nx m2
      | r => r) else .nx m1
theorem z_while {body : List Stmt} (n : Nat) (hp : PassesOwn (model X.prog X.w) X.A X.env X.xe) (hc : PT X c (tT Γ B W (toB h))) (hb : PSs X body (tS Γ B W f)) : PS X (.While c body [] pos) (tS Γ B W (whileL h f n)) := by
  refine PS.imp (ps_while hp hc hb) fun E σ H ⟨m, z, rl, hh⟩ => ?_
  refine ⟨fun k σ H => ∃ m z, Rl Γ B z m σ H ∧ PoS Γ B W E z (whileL h f k m), ⟨n, m, z, rl, hh⟩, ?_⟩
  rintro k σ H ⟨m, z, rl, hh⟩
  cases k with
  | zero => exact hh.elim
  | succ k =>
    refine bndS rl hh fun z1 d m1 x H1 e1 r1 p1 h1 => ?_
    subst p1
    cases x with
    | false => exact h1 z1 σ H1 (Ext.refl _) r1
    | true =>
      refine ⟨fun σ' H' => ∃ m z, Rl Γ B z m σ' H' ∧ PoS Γ B W E z (whileL h f k m), fun σ' H' q => ⟨k, Nat.lt_succ_self _, q⟩, m1, z1, r1, ?_⟩
      have h1' : PoS Γ B W E z1 (match f m1 with
        | .nx m2 => whileL h f k m2
        | .ct m2 => whileL h f k m2
        | .bk m2 => .nx m2
        | r => r) := h1
      cases e : f m1 with
      | nx m2 => rw [e] at h1'; exact fun z2 σ2 H2 e2 r2 => ⟨m2, z2, r2, PoS.mono h1' e2⟩
      | ct m2 => rw [e] at h1'; exact fun z2 σ2 H2 e2 r2 => ⟨m2, z2, r2, PoS.mono h1' e2⟩
      | bk m2 => rw [e] at h1'; exact h1'
      | rt d m2 => rw [e] at h1'; exact h1'
      | exc c d m2 => rw [e] at h1'; exact h1'
      | bad => rw [e] at h1'; exact h1'

/-! ### targets -/
def gset (i : Nat) : Tg := fun d m => some ⟨m.e.set i (.val d), m.S⟩
def gnil : Tgs := fun ds m => match ds with
  | [] => some m
  | _ => none
def gcons (g : Tg) (gs : Tgs) : Tgs := fun ds m => match ds with
  | d :: r => (g d m).bind fun m1 => gs r m1
  | [] => none
def gtup (n : Nat) (gs : Tgs) : Tg := fun d m => match d with
  | .tup ds => if ds.length = n then gs ds m else none
  | _ => none
theorem Only.refl (own : List Nat) (σ : L2.St) : Only own σ σ := ⟨rfl, fun _ _ => rfl⟩
theorem Only.trans {own own' : List Nat} {σ σ1 σ2 : L2.St} (a : Only own σ σ1) (b : Only own' σ1 σ2) : Only (own ++ own') σ σ2 :=
  ⟨b.1.trans a.1, fun j hj => (b.2 j (fun h => hj (List.mem_append_right _ h))).trans (a.2 j (fun h => hj (List.mem_append_left _ h)))⟩
theorem Only.set (σ : L2.St) (i : Nat) (w : Option V) : Only [i] σ (σ.set i w) := ⟨by simp, fun j hj => List.getElem?_set_ne (fun e => hj (by rw [e]; exact List.mem_singleton.mpr rfl))⟩
theorem z_gname {i : Nat} {x : Str} (hN : X.N.Nodup) (hi : X.N[i]? = some x) (hx : Loc X.env.scope x) (hf : X.fn x = true ∨ X.env.scope.names.lookup x = some .local) : PG X (.Name x pos) (tG Γ B [i] (gset i)) := by
  refine PG.imp (pg_name hN hi hx hf) fun v σ H Q ⟨m, z, d, m', rl, rp, e, q⟩ => ?_
  have e' : (⟨m.e.set i (.val d), m.S⟩ : M) = m' := Option.some.inj e
  subst e'
  exact q z _ H (Ext.refl _) (rl.setVal rp) (Only.set σ i _)
theorem z_gnil : PGs X [] (tGs Γ B [] gnil) := by
  refine PGs.imp pgs_nil fun vs σ H Q ⟨m, z, ds, m', rl, rp, e, q⟩ => ?_
  unfold gnil at e
  split at e
  · cases e
    simp only [RepL] at rp
    exact ⟨rp, q z σ H (Ext.refl _) rl (Only.refl _ _)⟩
  · cases e
theorem z_gcons {e : Expr} {es : List Expr} {own owns : List Nat} {t : Tg} {ts : Tgs} (h1 : PG X e (tG Γ B own t)) (h2 : PGs X es (tGs Γ B owns ts))
    (hs : (assignEach (e :: es) X.env).map (·.2) = assign e X.env :: (assignEach es X.env).map (·.2)) : PGs X (e :: es) (tGs Γ B (own ++ owns) (gcons t ts)) := by
  refine PGs.imp (pgs_cons h1 h2 hs) fun vs σ H Q ⟨m, z, ds, m', rl, rp, e, q⟩ => ?_
  unfold gcons at e
  split at e
  · rename_i d r
    simp only [RepL] at rp
    obtain ⟨v, ws, rfl, p1, p2⟩ := rp
    obtain ⟨m1, e1, e2⟩ := Option.bind_eq_some_iff.mp e
    refine ⟨v, ws, rfl, m, z, d, m1, rl, p1, e1, fun z1 σ1 H1 x1 r1 o1 => ?_⟩
    exact ⟨m1, z1, r, m', r1, RepL.mono x1 r p2, e2, fun z2 σ2 H2 x2 r2 o2 => q z2 σ2 H2 (x1.trans x2) r2 (o1.trans o2)⟩
  · cases e
theorem z_gtup {es : List Expr} {k : Nat} {own : List Nat} {ts : Tgs} {n : Nat} (hK : X.K = Γ.K) (hc : X.calm = true) (h : PGs X es (tGs Γ B own ts)) (hn : (assignEach es X.env).length = n) (hst : (assignEach es X.env).findIdx? (·.1) = none) :
    PG X (.Tuple es k pos) (tG Γ B own (gtup n ts)) := by
  refine PG.imp (pg_tup hc h hn hst) fun v σ H Q ⟨m, z, d, m', rl, rp, e, q⟩ => ?_
  unfold gtup at e
  split at e
  · split at e
    · rename_i hl
      obtain ⟨p, us, rfl, h1, h2⟩ := Rep.tup.mp rp
      exact ⟨p, us, rfl, by rw [hK]; exact rl.sqT h1, by rw [← h2.length]; exact hl, m, z, _, m', rl, h2, e, q⟩
    · cases e
  · cases e
def zasg (k : Den) (g : Tg) : DenS := fun m => (k m).thenS fun d m1 => match g d m1 with
  | some m2 => .nx m2
  | none => .bad
theorem asg_conv {own : List Nat} {t : Tg} {E : Ends} (hz : tS Γ B W (zasg k t) E σ H) : tAsg (tE Γ B W k) (tG Γ B own t) E σ H := by
  obtain ⟨m, z, rl, h⟩ := hz
  refine bndS rl h fun z1 d m1 x H1 e1 r1 p1 h1 => ?_
  cases e : t d m1 with
  | none => rw [e] at h1; exact h1.elim
  | some m2 =>
    rw [e] at h1
    exact ⟨m1, z1, d, m2, r1, p1, e, fun z2 σ2 H2 x2 r2 _ => h1 z2 σ2 H2 x2 r2⟩
theorem z_asg {tg : Expr} {own : List Nat} {t : Tg} (he : PE X a (tE Γ B W k)) (hg : PG X tg (tG Γ B own t)) (hs : swapsWithSole [tg] a pos.line X.env = pure false) (hw : swappedStores [tg] a X.env = pure none)
    (h1 : (assignEach [tg] X.env).map (·.2) = [assign tg X.env]) : PS X (.Assign [tg] a pos) (tS Γ B W (zasg k t)) := PS.imp (ps_asg he hg hs hw h1) fun E σ H hz => asg_conv hz
theorem z_set {i : Nat} {x : Str} {pos' : Pos} (hN : X.N.Nodup) (hi : X.N[i]? = some x) (hx : Loc X.env.scope x) (he : PE X a (tE Γ B W k)) (hs : swapsWith a (some (.Name x pos')) pos.line X.env = pure false) (hf : X.fn x = true ∨ X.env.scope.names.lookup x = some .local) :
    PS X (.Assign [.Name x pos'] a pos) (tS Γ B W (zasg k (gset i))) := by
  refine PS.imp (ps_set hN hi hx he hs hf) fun E σ H ⟨m, z, rl, h⟩ => ?_
  exact bndS rl h fun z1 d m1 x H1 e1 r1 p1 h1 => h1 z1 _ H1 (Ext.refl _) (r1.setVal p1)
/-- a new list, built from now on by slot i -/
def zsetB (i : Nat) (k : DenL) : DenS := fun m => (k m).thenS fun xs m1 => .nx ⟨m1.e.set i (.bld xs), m1.S⟩
theorem z_setB {i : Nat} {x : Str} {pos' : Pos} {k : DenL} (hN : X.N.Nodup) (hi : X.N[i]? = some x) (hx : Loc X.env.scope x) (he : PE X a (tF Γ B W k)) (hs : swapsWith a (some (.Name x pos')) pos.line X.env = pure false) (hf : X.fn x = true ∨ X.env.scope.names.lookup x = some .local) :
    PS X (.Assign [.Name x pos'] a pos) (tS Γ B W (zsetB i k)) := by
  refine PS.imp (ps_set hN hi hx he hs hf) fun E σ H ⟨m, z, rl, h⟩ => ?_
  refine bndS rl h fun z1 d m1 x H1 e1 r1 p1 h1 => ?_
  obtain ⟨p, rfl, l⟩ := p1
  exact h1 z1 _ H1 (Ext.refl _) (l.setBld r1)

/-! ### for -/
def forL (g : Tg) (body : DenS) : List D → DenS
  | [], m => .nx m
  | d :: ds, m => match g d m with
    | none => .bad
    | some m1 => match body m1 with
      | .nx m2 => forL g body ds m2
      | .ct m2 => forL g body ds m2
      | .bk m2 => .nx m2
      | r => r
def zfor (src : DenL) (g : Tg) (body : DenS) : DenS := fun m => (src m).thenS fun ds m1 => forL g body ds m1
theorem drop_cons {α : Type} {l : List α} {i : Nat} {d : α} (h : l[i]? = some d) : l.drop i = d :: l.drop (i + 1) := by
  have hl := (List.getElem?_eq_some_iff.mp h).1
  rw [List.drop_eq_getElem_cons hl, (List.getElem?_eq_some_iff.mp h).2]
theorem z_for {tg iter : Expr} {body : List Stmt} {src : DenL} {own : List Nat} {t : Tg} (hp : PassesOwn (model X.prog X.w) X.A X.env X.xe) (hc : X.calm = true) (hi : PI X tg iter (tI Γ B W src)) (hg : PG X tg (tG Γ B own t)) (hb : PSs X body (tS Γ B W f))
    (hs : ∀ x, foldedSetIterable iter X.env x = pure x) : PS X (.For tg iter body [] pos) (tS Γ B W (zfor src t f)) := by
  refine PS.imp (ps_for hp hc hi hg hb hs) fun E σ H ⟨m, z, rl, h⟩ => ?_
  refine bndS rl h fun z1 ds m1 J H1 e1 r1 wk h1 => ?_
  refine ⟨fun i n σ H => n = ds.length - i ∧ i ≤ ds.length ∧ ∃ m z, Ext z1 z ∧ Rl Γ B z m σ H ∧ PoS Γ B W E z (forL t f (ds.drop i) m), ⟨ds.length, rfl, Nat.zero_le _, m1, z1, Ext.refl _, r1, h1⟩, ?_⟩
  rintro i n σ H ⟨rfl, hi, m, z, ez, rl, h⟩
  have sub : ∀ a o, z1.G a = some o → H a = some o := fun a o q => rl.rf.sub a o (ez.g a o q)
  by_cases hlt : i < ds.length
  · refine .inr ⟨wk.go i H hlt sub, fun σ H => i + 1 ≤ ds.length ∧ ∃ m z, Ext z1 z ∧ Rl Γ B z m σ H ∧ PoS Γ B W E z (forL t f (ds.drop (i + 1)) m), fun σ' H' q => ⟨ds.length - (i + 1), by omega, rfl, q.1, q.2⟩, fun x H' y => ?_⟩
    obtain ⟨d, hd, q⟩ := wk.yld i H x H' hlt sub y
    rw [drop_cons hd] at h
    obtain ⟨z2, ez2, rl2, rp⟩ : ∃ z2, Ext z z2 ∧ Rl Γ B z2 m σ H' ∧ Rep Γ z2 d x := by
      rcases q with ⟨rfl, rp⟩ | ⟨T, es, vs, hT, rfl, rfl, rfl, rp⟩
      · exact ⟨z, Ext.refl _, rl, Rep.mono ez d rp⟩
      · obtain ⟨x1, x2, x3⟩ := rl.newTup hT (RepL.mono ez es rp)
        exact ⟨_, x1, x2, x3⟩
    unfold forL at h
    cases e : t d m with
    | none => rw [e] at h; exact h.elim
    | some m2 =>
      rw [e] at h
      refine ⟨m, z2, d, m2, rl2, rp, e, fun z3 σ3 H3 x3 r3 _ => ⟨m2, z3, r3, ?_⟩⟩
      have up : Ext z z3 := ez2.trans x3
      have h' : PoS Γ B W E z (match f m2 with
        | .nx m2 => forL t f (ds.drop (i + 1)) m2
        | .ct m2 => forL t f (ds.drop (i + 1)) m2
        | .bk m2 => .nx m2
        | r => r) := h
      cases e2 : f m2 with
      | nx m3 => rw [e2] at h'; exact fun z4 σ4 H4 x4 r4 => ⟨by omega, m3, z4, ez.trans (up.trans x4), r4, PoS.mono h' (up.trans x4)⟩
      | ct m3 => rw [e2] at h'; exact fun z4 σ4 H4 x4 r4 => ⟨by omega, m3, z4, ez.trans (up.trans x4), r4, PoS.mono h' (up.trans x4)⟩
      | bk m3 => rw [e2] at h'; exact PoS.mono (r := .nx m3) h' up
      | rt d m3 => rw [e2] at h'; exact PoS.mono (r := .rt d m3) h' up
      | exc c d m3 => rw [e2] at h'; exact PoS.mono (r := .exc c d m3) h' up
      | bad => rw [e2] at h'; exact h'
  · have e : i = ds.length := by omega
    subst e
    rw [List.drop_length] at h
    exact .inl ⟨wk.stop H sub, h z σ H (Ext.refl _) rl⟩

/-! ### what is walked -/
def seqD : D → Option (List D)
  | .tup xs => some xs
  | .lst xs => some xs
  | .str s => some (s.cps.toList.map fun c => .str ⟨#[c]⟩)
  | _ => none
theorem wk_str {x : Str} : Wk Γ z (Its x) (x.cps.toList.map fun c => .str ⟨#[c]⟩) := by
  have el : (x.cps.toList.map fun c => D.str ⟨#[c]⟩).length = x.cps.size := by simp
  refine ⟨fun i H hi sub => by rw [el] at hi; exact hi, fun H sub => by rw [el]; exact Nat.le_refl _, fun i H v H' hi sub y => ?_⟩
  obtain ⟨rfl, c, hc, rfl⟩ := y
  exact ⟨.str ⟨#[c]⟩, by rw [List.getElem?_map, Array.getElem?_toList, hc]; rfl, .inl ⟨rfl, Rep.str.mpr rfl⟩⟩
def zseqI (k : Den) : DenL := fun m => (k m).bind fun d m1 => ofO (seqD d) m1
theorem wk_list {ds : List D} {vs : List V} {p : Addr} (h1 : z.G p = some (.lst vs)) (h2 : RepL Γ z ds vs) : Wk Γ z (Itl Γ.K p) ds := by
  have w : Walk (Itl Γ.K p) vs.length (fun H => SqL Γ.K H p vs) (YAt vs) := walk_list
  have el := h2.length
  refine ⟨fun i H hi sub => w.goes i H (by omega) (SqL.of (sub _ _ h1)), fun H sub => by rw [el]; exact w.stops H (SqL.of (sub _ _ h1)), fun i H x H' hi sub y => ?_⟩
  obtain ⟨rfl, hx⟩ := w.yields i H x H' (by omega) (SqL.of (sub _ _ h1)) y
  obtain ⟨v, hv, rp⟩ := h2.get (List.getElem?_eq_getElem hi)
  rw [hv] at hx
  cases hx
  exact ⟨_, List.getElem?_eq_getElem hi, .inl ⟨rfl, rp⟩⟩
theorem wk_tup {ds : List D} {vs : List V} {p : Addr} (h1 : SqT Γ.K z.G p vs) (h2 : RepL Γ z ds vs) : Wk Γ z (Itt Γ.K p) ds := by
  have w : Walk (Itt Γ.K p) vs.length (fun H => SqT Γ.K H p vs) (YAt vs) := walk_tup
  have el := h2.length
  refine ⟨fun i H hi sub => w.goes i H (by omega) (sqT_mono sub h1), fun H sub => by rw [el]; exact w.stops H (sqT_mono sub h1), fun i H x H' hi sub y => ?_⟩
  obtain ⟨rfl, hx⟩ := w.yields i H x H' (by omega) (sqT_mono sub h1) y
  obtain ⟨v, hv, rp⟩ := h2.get (List.getElem?_eq_getElem hi)
  rw [hv] at hx
  cases hx
  exact ⟨_, List.getElem?_eq_getElem hi, .inl ⟨rfl, rp⟩⟩
theorem i_seq {tg : Expr} (hK : X.K = Γ.K) (ha : PE X a (tE Γ B W k)) : PI X tg a (tI Γ B W (zseqI k)) := by
  refine PI.imp (PI.or (PI.or (pi_list ha) (pi_tup ha)) (pi_str ha)) fun σ H R ⟨m, z, rl, h⟩ => ?_
  cases e : k m with
  | ok d m1 =>
    have h' : Po Γ B W (rpW Γ) σ z (ofO (seqD d) m1) R := by
      have q : zseqI k m = ofO (seqD d) m1 := by unfold zseqI; rw [e]; rfl
      rw [q] at h; exact h
    cases d with
    | lst ds =>
      refine .inl (.inl ⟨m, z, rl, ?_⟩)
      rw [e]
      intro z1 v H1 e1 r1 p1
      obtain ⟨p, us, rfl, h1, h2⟩ := Rep.lst.mp p1
      exact ⟨p, rfl, ⟨us, SqL.of (r1.rf.sub _ _ h1)⟩, h' z1 _ H1 e1 r1 (by rw [hK]; exact wk_list h1 h2)⟩
    | tup ds =>
      refine .inl (.inr ⟨m, z, rl, ?_⟩)
      rw [e]
      intro z1 v H1 e1 r1 p1
      obtain ⟨p, us, rfl, h1, h2⟩ := Rep.tup.mp p1
      exact ⟨p, rfl, ⟨us, by rw [hK]; exact r1.sqT h1⟩, h' z1 _ H1 e1 r1 (by rw [hK]; exact wk_tup h1 h2)⟩
    | str x =>
      refine .inr ⟨m, z, rl, ?_⟩
      rw [e]
      intro z1 v H1 e1 r1 p1
      exact ⟨x, Rep.str.mp p1, h' z1 _ H1 e1 r1 wk_str⟩
    | _ => exact h'.elim
  | exc c d m1 =>
    refine .inl (.inl ⟨m, z, rl, ?_⟩)
    have q : zseqI k m = .exc c d m1 := by unfold zseqI; rw [e]; rfl
    rw [q] at h; rw [e]; exact h
  | bad =>
    have q : zseqI k m = .bad := by unfold zseqI; rw [e]; rfl
    rw [q] at h; exact h.elim
def rangeD (n : Int) : List D := (List.range n.toNat).map fun i => D.int (i : Nat)
def range2D (a b : Int) : List D := (List.range (b - a).toNat).map fun i => D.int (a + (i : Nat))
def rangeS : List D → Option (List D)
  | [.int n] => if decide (n.natAbs < 1000000) = true then some (rangeD n) else none
  | _ => none
def zrange (k : DenL) : DenL := fun m => (k m).bind fun ds m1 => ofO (rangeS ds) m1
theorem wk_range {lo : Int} {n : Nat} : Wk Γ z (Itr lo n) ((List.range n).map fun i => D.int (lo + (i : Nat))) := by
  have w : Walk (Itr lo n) n (fun _ => True) (YFn fun i => .int (lo + i)) := walk_range
  have el : ((List.range n).map fun i => D.int (lo + (i : Nat))).length = n := by simp
  refine ⟨fun i H hi _ => w.goes i H (by omega) trivial, fun H _ => by rw [el]; exact w.stops H trivial, fun i H x H' hi _ y => ?_⟩
  obtain ⟨rfl, rfl⟩ := w.yields i H x H' (by omega) trivial y
  exact ⟨.int (lo + (i : Nat)), by rw [List.getElem?_map, List.getElem?_range (by omega)]; rfl, .inl ⟨rfl, Rep.int.mpr rfl⟩⟩
theorem i_range {tg e : Expr} {p : Pos} {k : DenL} (hg : Gl X "range") (hm : X.mg "range" = none) (ha : PA X [e] (tA Γ B W k)) (hs : starEach [e] X.env = [(false, eval e X.env)]) : PI X tg (.Call (.Name "range" p) [e] [] pos) (tI Γ B W (zrange k)) := by
  refine PI.imp (pi_range1 hg hm ha hs) fun σ H R ⟨m, z, rl, h⟩ => ?_
  refine bnd rl h fun z1 ds m1 xs H1 e1 r1 p1 h1 => ?_
  cases q0 : rangeS ds with
  | none => rw [q0] at h1; exact h1.elim
  | some rs =>
    rw [q0] at h1
    unfold rangeS at q0
    split at q0
    · rename_i n
      split at q0
      · rename_i hs
        cases q0
        have hs := of_decide_eq_true hs
        obtain ⟨v, rfl, q⟩ := p1.one
        refine ⟨n, by rw [Rep.int.mp q], by omega, by omega, h1 z1 _ H1 (Ext.refl _) r1 ?_⟩
        have w := wk_range (Γ := Γ) (z := z1) (lo := 0) (n := n.toNat)
        have e : ((List.range n.toNat).map fun i => D.int (0 + (i : Nat))) = rangeD n := by
          unfold rangeD
          congr 1
          funext i
          simp
        rw [e] at w
        exact w
      · cases q0
    · cases q0
/-- pairs of two lists, of two tuples -/
def zipD : D → D → Option (List D)
  | .tup xs, .tup ys => some (List.zipWith (fun x y => D.tup [x, y]) xs ys)
  | .lst xs, .lst ys => some (List.zipWith (fun x y => D.tup [x, y]) xs ys)
  | _, _ => none
def zipS : List D → Option (List D)
  | [d, e] => zipD d e
  | _ => none
def zzip (k : DenL) : DenL := fun m => (k m).bind fun ds m1 => ofO (zipS ds) m1
theorem zipW_get {xs ys : List D} {i : Nat} {x y : D} (h1 : xs[i]? = some x) (h2 : ys[i]? = some y) : (List.zipWith (fun x y => D.tup [x, y]) xs ys)[i]? = some (D.tup [x, y]) := by
  rw [List.getElem?_zipWith, h1, h2]
theorem wk_zipL {ds es : List D} {us vs : List V} {p q : Addr} (h1 : z.G p = some (.lst us)) (h2 : RepL Γ z ds us) (h3 : z.G q = some (.lst vs)) (h4 : RepL Γ z es vs) : Wk Γ z (Itz Γ.K p q) (List.zipWith (fun x y => D.tup [x, y]) ds es) := by
  have w := walk_zip (K := Γ.K) (a := p) (b := q) (xs := us) (ys := vs) rfl
  have e1 := h2.length
  have e2 := h4.length
  have el : (List.zipWith (fun x y => D.tup [x, y]) ds es).length = min us.length vs.length := by rw [List.length_zipWith, e1, e2]
  refine ⟨fun i H hi sub => w.goes i H (by omega) ⟨SqL.of (sub _ _ h1), SqL.of (sub _ _ h3)⟩, fun H sub => by rw [el]; exact w.stops H ⟨SqL.of (sub _ _ h1), SqL.of (sub _ _ h3)⟩, fun i H x H' hi sub y => ?_⟩
  obtain ⟨T, v, u, rfl, hT, rfl, g1, g2⟩ := w.yields i H x H' (by omega) ⟨SqL.of (sub _ _ h1), SqL.of (sub _ _ h3)⟩ y
  have i1 : i < ds.length := by omega
  have i2 : i < es.length := by omega
  obtain ⟨v', k1, k2⟩ := h2.get (List.getElem?_eq_getElem i1)
  obtain ⟨u', k3, k4⟩ := h4.get (List.getElem?_eq_getElem i2)
  have g1 : us[i]? = some v := g1
  have g2 : vs[i]? = some u := g2
  rw [g1] at k1; cases k1
  rw [g2] at k3; cases k3
  exact ⟨_, zipW_get (List.getElem?_eq_getElem i1) (List.getElem?_eq_getElem i2), .inr ⟨T, _, _, hT, rfl, rfl, rfl, .cons k2 (.cons k4 .nil)⟩⟩
theorem walk_zipT {K : PySem.W.Frag} {a b : Addr} {xs ys : List V} {n : Nat} (hn : n = min xs.length ys.length) : Walk (ItzT K a b) n (fun H => SqT K H a xs ∧ SqT K H b ys) (YPair (fun i => xs[i]?) (fun i => ys[i]?)) := by
  subst hn
  refine ⟨fun i _ hi q => ?_, fun _ q => ⟨xs, ys, q.1, q.2, by omega⟩, fun i H v H' _ q y => ?_⟩
  · have h1 : i < xs.length := by omega
    have h2 : i < ys.length := by omega
    exact ⟨xs, ys, xs[i], ys[i], q.1, q.2, by simp [h1], by simp [h2]⟩
  · obtain ⟨T, x, z, h1, h2, h3, h4, h5⟩ := y
    exact ⟨T, x, z, h1, h2, h3, h4 xs q.1, h5 ys q.2⟩
theorem wk_zipT {ds es : List D} {us vs : List V} {p q : Addr} (h1 : SqT Γ.K z.G p us) (h2 : RepL Γ z ds us) (h3 : SqT Γ.K z.G q vs) (h4 : RepL Γ z es vs) : Wk Γ z (ItzT Γ.K p q) (List.zipWith (fun x y => D.tup [x, y]) ds es) := by
  have w := walk_zipT (K := Γ.K) (a := p) (b := q) (xs := us) (ys := vs) rfl
  have e1 := h2.length
  have e2 := h4.length
  have el : (List.zipWith (fun x y => D.tup [x, y]) ds es).length = min us.length vs.length := by rw [List.length_zipWith, e1, e2]
  refine ⟨fun i H hi sub => w.goes i H (by omega) ⟨sqT_mono sub h1, sqT_mono sub h3⟩, fun H sub => by rw [el]; exact w.stops H ⟨sqT_mono sub h1, sqT_mono sub h3⟩, fun i H x H' hi sub y => ?_⟩
  obtain ⟨T, v, u, rfl, hT, rfl, g1, g2⟩ := w.yields i H x H' (by omega) ⟨sqT_mono sub h1, sqT_mono sub h3⟩ y
  have i1 : i < ds.length := by omega
  have i2 : i < es.length := by omega
  obtain ⟨v', k1, k2⟩ := h2.get (List.getElem?_eq_getElem i1)
  obtain ⟨u', k3, k4⟩ := h4.get (List.getElem?_eq_getElem i2)
  have g1 : us[i]? = some v := g1
  have g2 : vs[i]? = some u := g2
  rw [g1] at k1; cases k1
  rw [g2] at k3; cases k3
  exact ⟨_, zipW_get (List.getElem?_eq_getElem i1) (List.getElem?_eq_getElem i2), .inr ⟨T, _, _, hT, rfl, rfl, rfl, .cons k2 (.cons k4 .nil)⟩⟩
theorem i_zip {e e2 : Expr} {p tpos : Pos} {elts : List Expr} {kk : Nat} {k : DenL} (hK : X.K = Γ.K) (hg : Gl X "zip") (hm : X.mg "zip" = none) (ha : PA X [e, e2] (tA Γ B W k))
    (hs : starEach [e, e2] X.env = (false, eval e X.env) :: starEach [e2] X.env) (hpl : (backTo pos (starEach [e2] X.env)).any (·.1) = false) :
    PI X (.Tuple elts kk tpos) (.Call (.Name "zip" p) [e, e2] [] pos) (tI Γ B W (zzip k)) := by
  refine PI.imp (pi_zipA hg hm ha hs hpl) fun σ H R ⟨m, z, rl, h⟩ => ?_
  refine bnd rl h fun z1 ds m1 xs H1 e1 r1 p1 h1 => ?_
  cases q0 : zipS ds with
  | none => rw [q0] at h1; exact h1.elim
  | some rs =>
    rw [q0] at h1
    unfold zipS at q0
    split at q0
    · rename_i d e
      obtain ⟨v, u, rfl, q1, q2⟩ := p1.two
      unfold zipD at q0
      split at q0
      · cases q0
        obtain ⟨pa, us, rfl, k1, k2⟩ := Rep.tup.mp q1
        obtain ⟨pb, ws, rfl, k3, k4⟩ := Rep.tup.mp q2
        exact ⟨pa, pb, us, ws, rfl, .inr ⟨by rw [hK]; exact r1.sqT k1, by rw [hK]; exact r1.sqT k3, h1 z1 _ H1 (Ext.refl _) r1 (by rw [hK]; exact wk_zipT k1 k2 k3 k4)⟩⟩
      · cases q0
        obtain ⟨pa, us, rfl, k1, k2⟩ := Rep.lst.mp q1
        obtain ⟨pb, ws, rfl, k3, k4⟩ := Rep.lst.mp q2
        exact ⟨pa, pb, us, ws, rfl, .inl ⟨SqL.of (r1.rf.sub _ _ k1), SqL.of (r1.rf.sub _ _ k3), h1 z1 _ H1 (Ext.refl _) r1 (by rw [hK]; exact wk_zipL k1 k2 k3 k4)⟩⟩
      · cases q0
    · cases q0
end
end Z

set_option Elab.async false
set_option linter.all false
set_option maxRecDepth 100000
set_option maxHeartbeats 2000000
/-! Z5: comprehensions, lists under construction, cells -/
namespace Z
open PySem PySem.Spec PyProof.Rows L2 RZ

section
variable {Γ : Gm} {B : Bs} {W : WX} {X : Cx} {σ : L2.St} {H H' : Hp} {z z' : Fz} {m : M}
/-- a list in limbo is changed -/
theorem LimB.write {p : Addr} {bk bk' : BK} {xs xs' : List D} {vs' : List V} (l : LimB Γ B z m σ H p bk xs) (r : Rl Γ B z m σ H) (q : RepL Γ z xs' vs') : Rl Γ B z m σ (upd H p (bk'.ho vs')) ∧ LimB Γ B z m σ (upd H p (bk'.ho vs')) p bk' xs' := by
  obtain ⟨vs0, hv0, _⟩ := l.ex
  refine ⟨⟨⟨fun b o e => ?_, r.rf.slen, fun n ys b e1 e2 => ?_, r.rf.out, r.rf.rnd, tabs_box r.rf.tab hv0, r.rf.tg⟩, ⟨r.sn.ext, fun b o e hn hx ht => ?_, fun b o e => ?_, r.sn.gnew, r.sn.rnew⟩, r.len, fun j s w e1 e2 => ?_, r.apart⟩, ⟨vs', upd_same, q⟩, l.g, l.r, l.b, l.sl⟩
  · rw [upd_ne (fun (q : b = p) => by rw [q, l.g] at e; cases e)]
    exact r.rf.sub b o e
  · obtain ⟨us, q1, q2⟩ := r.rf.sto n ys b e1 e2
    exact ⟨us, by rw [upd_ne (fun (q : b = p) => l.r (by rw [← q]; exact List.mem_of_getElem? e2))]; exact q1, q2⟩
  · rw [upd_ne (fun (q : b = p) => by
      rcases l.b with k | k
      · rw [q, k] at e; cases e
      · exact hx (by rw [q]; exact k))]
    exact r.sn.keep b o e hn hx ht
  · by_cases hb : b = p
    · subst hb; exact ⟨_, upd_same⟩
    · rw [upd_ne hb]; exact r.sn.live b o e
  · have t := r.slot j s w e1 e2
    cases s with
    | slf => exact t
    | un => trivial
    | val d => exact t
    | box bk2 ys =>
      obtain ⟨b, us, e, q1, q2, q3, q4, q5⟩ := t
      refine ⟨b, us, e, ?_, q2, q3, q4, q5⟩
      rw [upd_ne (fun (eb : b = p) => l.sl j bk2 ys e1 (by rw [e2, e, eb]))]
      exact q1
theorem Lim.write {p : Addr} {xs xs' : List D} {vs' : List V} (l : Lim Γ B z m σ H p xs) (r : Rl Γ B z m σ H) (q : RepL Γ z xs' vs') : Rl Γ B z m σ (upd H p (.lst vs')) ∧ Lim Γ B z m σ (upd H p (.lst vs')) p xs' := LimB.write (bk' := .l) l r q
theorem Lim.through {m' : M} {σ' : L2.St} {p : Addr} {xs : List D} (l : Lim Γ B z m σ H p xs) (r : Rl Γ B z m σ H) (r' : Rl Γ (Bs.here B m z σ H) z' m' σ' H') : Lim Γ B z' m' σ' H' p xs := LimB.through l r r'
/-! ### the slots of a block's own names -/
def hideE (e : List Sl) : List Nat → List Sl
  | [] => e
  | v :: vs => (hideE e vs).set v .un
def hide (own : List Nat) (m : M) : M := ⟨hideE m.e own, m.S⟩
def backE (e0 e : List Sl) : List Nat → List Sl
  | [] => e
  | v :: vs => (backE e0 e vs).set v (e0.getD v .un)
theorem Rl.hide (r : Rl Γ B z m σ H) : ∀ own : List Nat, Rl Γ B z (hide own m) (wipe σ own) H
  | [] => r
  | v :: vs => (Rl.hide r vs).setUn
theorem hideE_len (e : List Sl) : ∀ own : List Nat, (hideE e own).length = e.length
  | [] => rfl
  | v :: vs => by simp [hideE, hideE_len e vs]
theorem hideE_bld {e : List Sl} {i : Nat} {bk : BK} {xs : List D} : ∀ {own : List Nat}, (hideE e own)[i]? = some (.box bk xs) → e[i]? = some (.box bk xs) ∧ i ∉ own
  | [], h => ⟨h, by simp⟩
  | v :: vs, h => by
    unfold hideE at h
    by_cases hv : v = i
    · subst hv
      by_cases hl : v < (hideE e vs).length
      · rw [List.getElem?_set_self hl] at h; cases h
      · rw [List.getElem?_eq_none (by simpa using hl)] at h; cases h
    · rw [List.getElem?_set_ne hv] at h
      obtain ⟨h1, h2⟩ := hideE_bld h
      exact ⟨h1, by simp only [List.mem_cons, not_or]; exact ⟨fun q => hv q.symm, h2⟩⟩
theorem LimB.hide {p : Addr} {bk : BK} {xs : List D} (l : LimB Γ B z m σ H p bk xs) (own : List Nat) : LimB Γ B z (hide own m) (wipe σ own) H p bk xs :=
  ⟨l.ex, l.g, l.r, l.b, fun i ky ys h1 h2 => by
    obtain ⟨k1, k2⟩ := hideE_bld h1
    rw [wipe_out k2] at h2
    exact l.sl i ky ys k1 h2⟩
theorem backE_len (e0 e : List Sl) : ∀ own : List Nat, (backE e0 e own).length = e.length
  | [] => rfl
  | v :: vs => by simp [backE, backE_len e0 e vs]
theorem backE_in {e0 e : List Sl} {i : Nat} {s : Sl} : ∀ {own : List Nat}, i ∈ own → (backE e0 e own)[i]? = some s → s = e0.getD i .un
  | v :: vs, hi, h => by
    unfold backE at h
    by_cases hv : v = i
    · subst hv
      have hl := (List.getElem?_eq_some_iff.mp h).1
      rw [List.length_set] at hl
      rw [List.getElem?_set_self hl] at h
      exact (Option.some.inj h).symm
    · rw [List.getElem?_set_ne hv] at h
      rcases List.mem_cons.mp hi with q | q
      · exact absurd q.symm hv
      · exact backE_in q h
theorem backE_out {e0 e : List Sl} {i : Nat} : ∀ {own : List Nat}, i ∉ own → (backE e0 e own)[i]? = e[i]?
  | [], _ => rfl
  | v :: vs, h => by
    have h1 : v ≠ i := fun q => h (by rw [q]; exact List.mem_cons_self)
    have h2 : i ∉ vs := fun q => h (List.mem_cons_of_mem _ q)
    unfold backE
    rw [List.getElem?_set_ne h1]
    exact backE_out h2
def noBld (e : List Sl) (own : List Nat) : Bool := own.all fun i => match e.getD i .un with
  | .box _ _ => false
  | _ => true
theorem Rl.restore {z0 : Fz} {m0 : M} {H0 : Hp} {own : List Nat} (r0 : Rl Γ B z0 m0 σ H0) (r : Rl Γ B z m (wipe σ own) H) (e : Ext z0 z) (nb : noBld m0.e own = true) : Rl Γ B z ⟨backE m0.e m.e own, m.S⟩ σ H := by
  have nob : ∀ i bk xs, i ∈ own → m0.e.getD i .un ≠ .box bk xs := fun i bk xs hi q => by
    have := List.all_eq_true.mp nb i hi
    rw [q] at this
    cases this
  refine ⟨r.rf, r.sn, by show (backE m0.e m.e own).length = _; rw [backE_len, r.len, wipe_length], fun i s w h1 h2 => ?_, fun i j kx ky xs ys a hij h1 h2 h3 h4 => ?_⟩
  · have h1 : (backE m0.e m.e own)[i]? = some s := h1
    by_cases hi : i ∈ own
    · have es := backE_in hi h1
      have hl : i < m0.e.length := by rw [r0.len]; exact (List.getElem?_eq_some_iff.mp h2).1
      have e0 : m0.e[i]? = some s := by rw [es, List.getD_eq_getElem?_getD, List.getElem?_eq_getElem hl]; rfl
      have q := r0.slot i s w e0 h2
      cases s with
      | slf => exact q
      | un => trivial
      | val d =>
        obtain ⟨v, e1, e2⟩ := q
        exact ⟨v, e1, Rep.mono e d e2⟩
      | box bk xs => exact absurd es.symm (nob i bk xs hi)
    · rw [backE_out hi] at h1
      exact r.slot i s w h1 (by rw [wipe_out hi]; exact h2)
  · have h1 : (backE m0.e m.e own)[i]? = some (.box kx xs) := h1
    have h2 : (backE m0.e m.e own)[j]? = some (.box ky ys) := h2
    have hi : i ∉ own := fun q => nob i kx xs q (backE_in q h1).symm
    have hj : j ∉ own := fun q => nob j ky ys q (backE_in q h2).symm
    rw [backE_out hi] at h1
    rw [backE_out hj] at h2
    exact r.apart i j kx ky xs ys a hij h1 h2 (by rw [wipe_out hi]; exact h3) (by rw [wipe_out hj]; exact h4)
theorem LimB.restore {m0 : M} {own : List Nat} {p : Addr} {bk : BK} {xs : List D} (l : LimB Γ B z m (wipe σ own) H p bk xs) (nb : noBld m0.e own = true) : LimB Γ B z ⟨backE m0.e m.e own, m.S⟩ σ H p bk xs :=
  ⟨l.ex, l.g, l.r, l.b, fun i ky ys h1 h2 => by
    have h1 : (backE m0.e m.e own)[i]? = some (.box ky ys) := h1
    have hi : i ∉ own := fun q => by
      have := List.all_eq_true.mp nb i q
      rw [← backE_in q h1] at this
      cases this
    rw [backE_out hi] at h1
    exact l.sl i ky ys h1 (by rw [wipe_out hi]; exact h2)⟩
theorem wipe_only {own : List Nat} {σ' : L2.St} (o : Only own (wipe σ own) σ') : wipe σ' own = wipe σ own := by
  refine List.ext_getElem? fun i => ?_
  by_cases hi : i ∈ own
  · have key : ∀ (s : L2.St) (vs : List Nat), i ∈ vs → (wipe s vs)[i]? = if i < s.length then some none else none := by
      intro s vs
      induction vs with
      | nil => intro h; exact nomatch h
      | cons v vs ih =>
        intro h
        show ((wipe s vs).set v none)[i]? = _
        by_cases hv : v = i
        · subst hv
          by_cases hl : v < s.length
          · rw [if_pos hl, List.getElem?_set_self (by rw [wipe_length]; exact hl)]
          · rw [if_neg hl, List.getElem?_eq_none (by rw [List.length_set, wipe_length]; omega)]
        · rw [List.getElem?_set_ne hv]
          rcases List.mem_cons.mp h with q | q
          · exact absurd q.symm hv
          · exact ih q
    rw [key _ _ hi, key _ _ hi, o.1, wipe_length]
  · rw [wipe_out hi, o.2 i hi]
/-! ### [el for t in src if c] -/
def compL (t : Tg) (c : M → R Bool) (el : Den) (own : List Nat) : List D → List D → M → R (List D)
  | [], acc, m => .ok acc m
  | d :: ds, acc, m => match t d m with
    | none => .bad
    | some m1 => match c m1 with
      | .ok b m2 => if b = true then (match el m2 with
          | .ok x m3 => compL t c el own ds (acc ++ [x]) (hide own m3)
          | _ => .bad) else compL t c el own ds acc (hide own m2)
      | _ => .bad
def yes : M → R Bool := fun m => .ok true m
def zcompF (src : DenL) (t : Tg) (c : M → R Bool) (el : Den) (own : List Nat) : DenL := fun m => (src m).bind fun ds m1 =>
  if (small ds.length && noBld m1.e own) = true then (match compL t c el own ds [] (hide own m1) with
    | .ok xs m2 => .ok xs ⟨backE m1.e m2.e own, m2.S⟩
    | _ => .bad) else .bad
abbrev W0 : WX := fun _ _ _ _ => False
/-- whatever the entry is -/
abbrev tEx (Γ : Gm) (f : Den) : TE := fun σ H Q => ∃ B, tE Γ B W0 f σ H Q
abbrev tTx (Γ : Gm) (f : M → R Bool) : TT := fun σ H Q => ∃ B, tT Γ B W0 f σ H Q
abbrev tGx (Γ : Gm) (own : List Nat) (g : Tg) : TG := fun v σ H Q => ∃ B, tG Γ B own g v σ H Q
theorem comp_conv {src : DenL} {t : Tg} {c : M → R Bool} {el : Den} {own : List Nat} {Q : VK} (hz : tF Γ B W (zcompF src t c el own) σ H Q) : tLc (tI Γ B W src) (tGx Γ own t) (tTx Γ c) (tEx Γ el) own σ H Q := by
  obtain ⟨m, z, rl, h⟩ := hz
  refine bnd rl h fun z1 ds m1 J H1 e1 r1 wk h1 => ?_
  split at h1
  · rename_i hs
    rw [Bool.and_eq_true] at hs
    obtain ⟨sm, nb⟩ := hs
    intro A hA
    obtain ⟨r2, l2⟩ := r1.limbo hA (RepL.nil (Γ := Γ) (z := z1))
    cases hr : compL t c el own ds [] (hide own m1) with
    | exc c d m => rw [hr] at h1; exact h1.elim
    | bad => rw [hr] at h1; exact h1.elim
    | ok xs mE =>
      rw [hr] at h1
      refine ⟨fun i n H => n = ds.length - i ∧ i ≤ ds.length ∧ ∃ m z acc, Ext z1 z ∧ Rl Γ B z m (wipe σ own) H ∧ Lim Γ B z m (wipe σ own) H A acc ∧ acc.length ≤ i ∧ compL t c el own (ds.drop i) acc m = .ok xs mE,
        ⟨ds.length, rfl, Nat.zero_le _, hide own m1, z1, [], Ext.refl _, r2.hide own, l2.hide own, Nat.le_refl _, hr⟩, ?_⟩
      rintro i n H ⟨rfl, hi, m, z, acc, ez, rl, li, la, he⟩
      have sub : ∀ a o, z1.G a = some o → H a = some o := fun a o q => rl.rf.sub a o (ez.g a o q)
      by_cases hlt : i < ds.length
      · refine .inr ⟨wk.go i H hlt sub, fun H => i + 1 ≤ ds.length ∧ ∃ m z acc, Ext z1 z ∧ Rl Γ B z m (wipe σ own) H ∧ Lim Γ B z m (wipe σ own) H A acc ∧ acc.length ≤ i + 1 ∧ compL t c el own (ds.drop (i + 1)) acc m = .ok xs mE, fun H' q => ⟨ds.length - (i + 1), by omega, rfl, q.1, q.2⟩, fun x H' y => ?_⟩
        obtain ⟨d, hd, q⟩ := wk.yld i H x H' hlt sub y
        rw [drop_cons hd] at he
        have rb := rl.rebase
        obtain ⟨z2, ez2, rb2, rp⟩ : ∃ z2, Ext z z2 ∧ Rl Γ (Bs.here B m z (wipe σ own) H) z2 m (wipe σ own) H' ∧ Rep Γ z2 d x := by
          rcases q with ⟨rfl, rp⟩ | ⟨T, es, vs, hT, rfl, rfl, rfl, rp⟩
          · exact ⟨z, Ext.refl _, rb, Rep.mono ez d rp⟩
          · obtain ⟨x1, x2, x3⟩ := rb.newTup hT (RepL.mono ez es rp)
            exact ⟨_, x1, x2, x3⟩
        unfold compL at he
        cases e3 : t d m with
        | none => rw [e3] at he; cases he
        | some m3 =>
          rw [e3] at he
          refine ⟨_, m, z2, d, m3, rb2, rp, e3, fun z3 σ3 H3 x3 r3 o3 => ⟨wipe_only o3, _, m3, z3, r3, ?_⟩⟩
          dsimp only at he
          cases e4 : c m3 with
          | exc c d m => rw [e4] at he; cases he
          | bad => rw [e4] at he; cases he
          | ok b m4 =>
            rw [e4] at he
            dsimp only at he
            intro z4 b' H4 x4 r4 eb
            subst eb
            cases b' with
            | false =>
              rw [if_neg Bool.false_ne_true] at he ⊢
              refine ⟨by omega, hide own m4, z4, acc, ez.trans (ez2.trans (x3.trans x4)), ?_, ?_, by omega, he⟩
              · have q := (Rl.unbase rl r4).hide own
                rw [wipe_only o3] at q
                exact q
              · have q := (Lim.through li rl r4).hide own
                rw [wipe_only o3] at q
                exact q
            | true =>
              rw [if_pos rfl] at he ⊢
              refine ⟨_, m4, z4, r4, ?_⟩
              cases e5 : el m4 with
              | exc c d m => rw [e5] at he; cases he
              | bad => rw [e5] at he; cases he
              | ok v m5 =>
                rw [e5] at he
                dsimp only at he
                intro z5 y5 H5 x5 r5 p5
                have r6 := Rl.unbase rl r5
                have l6 := Lim.through li rl r5
                obtain ⟨us, k1, k2⟩ := l6.ex
                obtain ⟨r7, l7⟩ := l6.write r6 (k2.snoc p5)
                refine ⟨us, k1, ?_, by omega, hide own m5, z5, acc ++ [v], ez.trans (ez2.trans (x3.trans (x4.trans x5))), ?_, ?_, by simp; omega, he⟩
                · rw [← k2.length]
                  exact Nat.lt_of_le_of_lt la (Nat.lt_of_lt_of_le hlt (small_le sm))
                · have q := r7.hide own
                  rw [wipe_only o3] at q
                  exact q
                · have q := l7.hide own
                  rw [wipe_only o3] at q
                  exact q
      · have e : i = ds.length := by omega
        subst e
        rw [List.drop_length] at he
        unfold compL at he
        cases he
        exact .inl ⟨wk.stop H sub, h1 z _ H ez (Rl.restore r2 rl ez nb) ⟨A, rfl, li.restore nb⟩⟩
  · exact h1.elim
variable {elt tg iter : Expr} {ifs : List Expr} {scope : Scope} {own : List (Str × Nat)} {pos : Pos} {src : DenL} {t : Tg} {c : M → R Bool} {el : Den}
theorem z_compF (hc : X.calm = true) (hN : X.N.Nodup) (hi : PI X tg iter (tI Γ B W src)) (ok : BlkOk X.N X.env.scope scope own)
    (hg : ∀ (B : Bs) (s : Shared) (H : Hp) (C : Addr) (cl : List (Str × Addr)) (fp : List Addr), PG (X.blk s H scope (compEnvC scope cl C X.env) fp) tg (tG Γ B (own.map (·.2)) t))
    (ht : ∀ (B : Bs) (s : Shared) (H : Hp) (C : Addr) (cl : List (Str × Addr)) (fp : List Addr), PTs (X.blk s H scope (compEnvC scope cl C X.env) fp) ifs (tT Γ B W0 c))
    (he : ∀ (B : Bs) (s : Shared) (H : Hp) (C : Addr) (cl : List (Str × Addr)) (fp : List Addr), PE (X.blk s H scope (compEnvC scope cl C X.env) fp) elt (tE Γ B W0 el)) (hs : ∀ x, foldedSetIterable iter X.env x = pure x) :
    PE X (.ListComp elt [⟨tg, iter, ifs, 0⟩] scope pos) (tF Γ B W (zcompF src t c el (own.map (·.2)))) :=
  PE.imp (pe_lc hc hN hi ok (fun s H C cl fp => ⟨fun pins s σ H v u Q I r ⟨B, w⟩ => (hg B _ _ C cl fp).run pins s σ H v u Q I r w⟩) (fun s H C cl fp => ⟨fun pins s σ H Q I ⟨B, w⟩ => (ht B _ _ C cl fp).run pins s σ H Q I w⟩)
    (fun s H C cl fp => ⟨fun pins s σ H Q I ⟨B, w⟩ => (he B _ _ C cl fp).run pins s σ H Q I w⟩) hs) fun σ H Q hz => comp_conv hz
/-- y = [..], on one line -/
theorem ps_compF {i : Nat} {y : Str} {py spos : Pos} {q : List D → M → RS} {gg : TG} (hc : X.calm = true) (hN : X.N.Nodup) (hy : X.N[i]? = some y) (hyl : X.env.scope.names.lookup y = some .local)
    (hsw : swapsWith (.ListComp elt [⟨tg, iter, ifs, 0⟩] scope pos) (some (.Name y py)) spos.line X.env = pure true) (hi : PI X tg iter (tI Γ B W src)) (ok : BlkOk X.N X.env.scope scope own)
    (hg : ∀ (B : Bs) (s : Shared) (H : Hp) (C : Addr) (cl : List (Str × Addr)) (fp : List Addr), PG (X.blk s H scope (compEnvC scope cl C X.env) fp) tg (tG Γ B (own.map (·.2)) t))
    (ht : ∀ (B : Bs) (s : Shared) (H : Hp) (C : Addr) (cl : List (Str × Addr)) (fp : List Addr), PTs (X.blk s H scope (compEnvC scope cl C X.env) fp) ifs (tT Γ B W0 c))
    (he : ∀ (B : Bs) (s : Shared) (H : Hp) (C : Addr) (cl : List (Str × Addr)) (fp : List Addr), PE (X.blk s H scope (compEnvC scope cl C X.env) fp) elt (tE Γ B W0 el)) (hs : ∀ x, foldedSetIterable iter X.env x = pure x) :
    PS X (.Assign [.Name y py] (.ListComp elt [⟨tg, iter, ifs, 0⟩] scope pos) spos) (tAsg (tF Γ B W (zcompF src t c el (own.map (·.2)))) (gName i)) :=
  PS.imp (ps_setLc hc hN hy hyl hsw hi ok (fun s H C cl fp => ⟨fun pins s σ H v u Q I r ⟨B, w⟩ => (hg B _ _ C cl fp).run pins s σ H v u Q I r w⟩) (fun s H C cl fp => ⟨fun pins s σ H Q I ⟨B, w⟩ => (ht B _ _ C cl fp).run pins s σ H Q I w⟩)
    (fun s H C cl fp => ⟨fun pins s σ H Q I ⟨B, w⟩ => (he B _ _ C cl fp).run pins s σ H Q I w⟩) hs) fun E σ H hz => comp_conv hz
/-- a name set by a reading of a new list: built on, or frozen -/
theorem setF_conv {i : Nat} {k : DenL} {E : Ends} (hz : tS Γ B W (zsetB i k) E σ H) : tAsg (tF Γ B W k) (gName i) E σ H := by
  obtain ⟨m, z, rl, h⟩ := hz
  refine bndS rl h fun z1 d m1 x H1 e1 r1 p1 h1 => ?_
  obtain ⟨p, rfl, l⟩ := p1
  exact h1 z1 _ H1 (Ext.refl _) (l.setBld r1)
theorem setFz_conv {i : Nat} {k : DenL} {E : Ends} (hz : tS Γ B W (zasg (frz k) (gset i)) E σ H) : tAsg (tF Γ B W k) (gName i) E σ H := by
  obtain ⟨m, z, rl, h⟩ := hz
  have h' : PoS Γ B W E z ((k m).thenS fun ds m1 => .nx ⟨m1.e.set i (.val (.lst ds)), m1.S⟩) := by
    have e : zasg (frz k) (gset i) m = ((k m).thenS fun ds m1 => .nx ⟨m1.e.set i (.val (.lst ds)), m1.S⟩) := by
      unfold zasg frz gset
      cases k m <;> rfl
    rw [← e]
    exact h
  refine bndS rl h' fun z1 d m1 x H1 e1 r1 p1 h1 => ?_
  obtain ⟨p, rfl, l⟩ := p1
  obtain ⟨z2, x1, x2, x3⟩ := l.freeze r1
  exact h1 z2 _ H1 x1 (x2.setVal x3)
end
end Z

set_option Elab.async false
set_option linter.all false
set_option maxRecDepth 100000
set_option maxHeartbeats 2000000
/-! Z6: builtins by name, lists under construction, cells, several targets -/
namespace Z
open PySem PySem.Spec PyProof.Rows L2 RZ

section
variable {Γ : Gm} {B : Bs} {W : WX} {X : Cx} {σ : L2.St} {H H' : Hp} {z z' : Fz} {m : M} {x : Str} {p pos apos : Pos} {e : Expr} {es : List Expr} {fs : DenL} {id T : String}
theorem z_callB {r : List V → Hp → VK → Prop} {g : List D → Option D} (hc : CallR X (.builtin id) r) (cz : CallZ Γ B r g) (hg : Gl X x) (hm : X.mg x = none) (hv : bootBuiltins x = some (.builtin id)) (ha : PA X (e :: es) (tA Γ B W fs)) (hn : x ≠ "__name__") (hdb : (x == ("__debug__" : Str)) = false)
    (he : starEach (e :: es) X.env = (false, eval e X.env) :: starEach es X.env) (hpl : (backTo pos (starEach es X.env)).any (·.1) = false) : PE X (.Call (.Name x p) (e :: es) [] pos) (tE Γ B W (zcb g fs)) :=
  PE.imp (pe_callB hc hg hm hv ha hn hdb he hpl) fun _ _ _ hz => cb_conv cz hz
theorem z_callTy {r : List V → Hp → VK → Prop} {g : List D → Option D} (hc : CallR X (.type T) r) (cz : CallZ Γ B r g) (hg : Gl X x) (hm : X.mg x = none) (hv : bootBuiltins x = some (.type T)) (ha : PA X (e :: es) (tA Γ B W fs)) (hn : x ≠ "__name__") (hdb : (x == ("__debug__" : Str)) = false)
    (he : starEach (e :: es) X.env = (false, eval e X.env) :: starEach es X.env) (hpl : (backTo pos (starEach es X.env)).any (·.1) = false) : PE X (.Call (.Name x p) (e :: es) [] pos) (tE Γ B W (zcb g fs)) :=
  PE.imp (pe_callTy hc hg hm hv ha hn hdb he hpl) fun _ _ _ hz => cb_conv cz hz
/-! ### list(x), list(range(..)) -/
def listS : List D → Option (List D)
  | [.tup xs] => some xs
  | [.lst xs] => some xs
  | _ => none
def zlistF (fs : DenL) : DenL := fun m => (fs m).bind fun ds m1 => ofO (listS ds) m1
theorem z_listF (hK : X.K = Γ.K) (hg : Gl X "list") (hm : X.mg "list" = none) (hv : bootBuiltins "list" = some (.type "list")) (ha : PA X [e] (tA Γ B W fs))
    (he : starEach [e] X.env = (false, eval e X.env) :: starEach [] X.env) (hpl : (backTo pos (starEach [] X.env)).any (·.1) = false) : PE X (.Call (.Name "list" p) [e] [] pos) (tF Γ B W (zlistF fs)) := by
  refine PE.imp (pe_callTy call_list_of hg hm hv ha (by decide) (by decide) he hpl) fun σ H Q ⟨m, z, rl, h⟩ => ?_
  refine bnd rl h fun z1 ds m1 xs H1 e1 r1 p1 h1 => ?_
  cases q0 : listS ds with
  | none => rw [q0] at h1; exact h1.elim
  | some rs =>
    rw [q0] at h1
    unfold listS at q0
    split at q0
    · cases q0
      obtain ⟨v, rfl, q⟩ := p1.one
      obtain ⟨a, us, rfl, k1, k2⟩ := Rep.tup.mp q
      refine ⟨a, us, rfl, .inr (by rw [hK]; exact r1.sqT k1), fun l hl => ?_⟩
      obtain ⟨r2, l2⟩ := r1.limbo hl k2
      exact h1 z1 _ _ (Ext.refl _) r2 ⟨l, rfl, l2⟩
    · cases q0
      obtain ⟨v, rfl, q⟩ := p1.one
      obtain ⟨a, us, rfl, k1, k2⟩ := Rep.lst.mp q
      refine ⟨a, us, rfl, .inl (SqL.of (r1.rf.sub _ _ k1)), fun l hl => ?_⟩
      obtain ⟨r2, l2⟩ := r1.limbo hl k2
      exact h1 z1 _ _ (Ext.refl _) r2 ⟨l, rfl, l2⟩
    · cases q0
theorem rgV_rep (a b : Int) : RepL Γ z (range2D a b) (rgV a b) := by
  unfold range2D rgV
  generalize List.range (b - a).toNat = l
  induction l with
  | nil => exact .nil
  | cons i l ih => exact .cons (Rep.int.mpr rfl) ih
def rangeF (d : D) : Option (List D) := match d with
  | .int n => if decide (n.natAbs < 1000000) = true then some (range2D 0 n) else none
  | _ => none
def zlistRg (k : Den) : DenL := fun m => (k m).bind fun d m1 => ofO (rangeF d) m1
theorem z_listRg {p2 pos2 : Pos} {k : Den} (hc : X.calm = true) (hg : Gl X "list") (hm : X.mg "list" = none) (hg2 : Gl X "range") (hm2 : X.mg "range" = none) (ha : PE X e (tE Γ B W k)) (na : starEach [e] X.env = (false, eval e X.env) :: starEach [] X.env)
    (na2 : starEach [.Call (.Name "range" p2) [e] [] pos2] X.env = (false, eval (.Call (.Name "range" p2) [e] [] pos2) X.env) :: starEach [] X.env) : PE X (.Call (.Name "list" p) [.Call (.Name "range" p2) [e] [] pos2] [] pos) (tF Γ B W (zlistRg k)) := by
  refine PE.imp (pe_listRg hc hg hm (prg_1 hg2 hm2 ha na) na2) fun σ H Q ⟨m, z, rl, h⟩ => ?_
  refine bnd rl h fun z1 d m1 v H1 e1 r1 p1 h1 => ?_
  cases q0 : rangeF d with
  | none => rw [q0] at h1; exact h1.elim
  | some rs =>
    rw [q0] at h1
    unfold rangeF at q0
    split at q0
    · rename_i n
      split at q0
      · rename_i hs
        cases q0
        have hs := of_decide_eq_true hs
        refine ⟨n, Rep.int.mp p1, ⟨by omega, by omega, by omega, by omega, by omega⟩, fun q hq => ?_⟩
        obtain ⟨r2, l2⟩ := r1.limbo hq (rgV_rep (Γ := Γ) (z := z1) 0 n)
        exact h1 z1 _ _ (Ext.refl _) r2 ⟨q, rfl, l2⟩
      · cases q0
    · cases q0
/-! ### x[i] of cells too; cells stored -/
def zidx (f g : Den) : Den := fun m => (f m).bind fun d m1 => (g m1).bind fun e m2 => match d, e with
  | .cel n, .int i => ofO ((m2.S[n]?).bind fun xs => atI xs i) m2
  | d, e => ofO (idxD d e) m2
variable {a b : Expr} {f g : Den}
theorem z_idxS (hK : X.K = Γ.K) (ha : PE X a (tE Γ B W f)) (hb : PE X b (tE Γ B W g)) (hs : PlainIx b) : PE X (.Subscript a b pos) (tE Γ B W (zidx f g)) := by
  refine PE.imp (pe_ix ix_seq ha hb hs) fun σ H Q ⟨m, z, rl, h⟩ => ?_
  refine bnd rl h fun z1 d m1 x H1 e1 r1 p1 h1 => bnd r1 h1 fun z2 e m2 y H2 e2 r2 p2 h2 => ?_
  have w1 := Rep.mono e2 d p1
  split at h2
  · rename_i n i
    cases q : (m2.S[n]?).bind fun xs => atI xs i with
    | none => rw [q] at h2; exact h2.elim
    | some c =>
      rw [q] at h2
      obtain ⟨xs, q1, q2⟩ := Option.bind_eq_some_iff.mp q
      obtain ⟨pa, rfl, k1⟩ := Rep.cel.mp w1
      obtain ⟨vs, k2, k3⟩ := r2.rf.sto n xs pa q1 k1
      obtain ⟨v, k4, k5⟩ := atI_rep k3 q2
      exact .inl ⟨pa, vs, i, v, rfl, Rep.int.mp p2, SqL.of k2, k4, h2 z2 v H2 (Ext.refl _) r2 k5⟩
  · cases q : idxD d e with
    | none => rw [q] at h2; exact h2.elim
    | some c =>
      rw [q] at h2
      rw [hK]
      exact oz_idx z2 m2 σ H2 d e c x y Q r2 w1 p2 q h2
/-- o[i] = v of a cell -/
def celSet (m : M) (c k v : D) : RS := match c, k with
  | .cel n, .int i => match m.S[n]? with
    | some xs => match ixN xs.length i with
      | some j => .nx ⟨m.e, m.S.set n (xs.set j v)⟩
      | none => .bad
    | none => .bad
  | _, _ => .bad
def zsetItem (f o i : Den) : DenS := fun m => (f m).thenS fun v m1 => (o m1).thenS fun c m2 => (i m2).thenS fun k m3 => celSet m3 c k v
theorem z_setItem {o i : Expr} {k : Den} (ho : PE X o (tE Γ B W f)) (hi : PE X i (tE Γ B W g)) (he : PE X e (tE Γ B W k)) (hasg : ∀ v, assign (.Subscript o i apos) X.env v = (do
      let ov ← holding [v] (eval o X.env)
      let iv ← holding [v, ov] (eval i X.env)
      standAt apos
      holding [v, ov, iv] (setItem ov iv v)
      release [v, ov, iv] [])) (hs : swapsWithSole [.Subscript o i apos] e pos.line X.env = pure false) (hw : swappedStores [.Subscript o i apos] e X.env = pure none)
    (h1 : (assignEach [.Subscript o i apos] X.env).map (·.2) = [assign (.Subscript o i apos) X.env]) : PS X (.Assign [.Subscript o i apos] e pos) (tS Γ B W (zsetItem k f g)) := by
  refine PS.imp (ps_asg he (pg_sub ho hi set_list hasg) hs hw h1) fun E σ H ⟨m, z, rl, h⟩ => ?_
  refine bndS rl h fun z1 v m1 x H1 e1 r1 p1 h1 => bndS r1 h1 fun z2 c m2 y H2 e2 r2 p2 h2 => bndS r2 h2 fun z3 k m3 w H3 e3 r3 p3 h3 => ?_
  have w1 := Rep.mono (e2.trans e3) v p1
  have w2 := Rep.mono e3 c p2
  unfold celSet at h3
  split at h3
  · rename_i n i
    split at h3
    · rename_i xs q1
      split at h3
      · rename_i j q2
        obtain ⟨pa, rfl, k1⟩ := Rep.cel.mp w2
        obtain ⟨vs, k2, k3⟩ := r3.rf.sto n xs pa q1 k1
        exact ⟨pa, vs, i, j, rfl, Rep.int.mp p3, k2, by rw [← k3.length]; exact q2, h3 z3 σ _ (Ext.refl _) (r3.celWrite k1 (k3.set j w1))⟩
      · exact h3.elim
    · exact h3.elim
  · exact h3.elim
/-! ### lists under construction -/
theorem bld_at {i : Nat} {xs : List D} (r : Rl Γ B z m σ H) (h : m.e[i]? = some (.bld xs)) : ∃ a vs, σ[i]? = some (some (.ref a)) ∧ H a = some (.lst vs) ∧ RepL Γ z xs vs := by
  have hl : i < σ.length := by rw [← r.len]; exact (List.getElem?_eq_some_iff.mp h).1
  obtain ⟨a, vs, e, k1, k2, _⟩ := r.slot i _ _ h (List.getElem?_eq_getElem hl)
  exact ⟨a, vs, by rw [List.getElem?_eq_getElem hl, e], k1, k2⟩
def isBld (m : M) (i : Nat) : Bool := match m.e[i]? with
  | some (.box .l _) => true
  | _ => false
theorem isBld_of {i : Nat} (h : isBld m i = true) : ∃ xs, m.e[i]? = some (.bld xs) := by
  unfold isBld at h
  split at h
  · rename_i xs e; exact ⟨xs, e⟩
  · cases h
/-- a method of slot i's list: its items and the arguments give an answer and new items -/
def zbld (i : Nat) (fs : DenL) (k : List D → List D → Option (D × List D)) : Den := fun m => if isBld m i = true then (fs m).bind fun ds m1 => (match m1.e[i]? with
  | some (.box .l xs) => (match k xs ds with
    | some (d, ys) => .ok d ⟨m1.e.set i (.bld ys), m1.S⟩
    | none => .bad)
  | _ => .bad) else .bad
/-- r does what k says -/
def MtZ (Γ : Gm) (r : V → List V → Hp → VK → Prop) (k : List D → List D → Option (D × List D)) : Prop := ∀ (z : Fz) (H : Hp) (a : Addr) (xs ds ys : List D) (vs us : List V) (d : D) (Q : VK), (∀ a o, z.G a = some o → H a = some o) → H a = some (.lst vs) → RepL Γ z xs vs → RepL Γ z ds us → k xs ds = some (d, ys) →
  (∀ v ws, Rep Γ z d v → RepL Γ z ys ws → Q v (upd H a (.lst ws))) → r (.ref a) us H Q
theorem z_bld {i : Nat} {y name : Str} {r : V → List V → Hp → VK → Prop} {k : List D → List D → Option (D × List D)} (pa : PlainAttrs "list") (slot : Slot "list" name id) (hty : typeOf (.builtin id) = pure (.type "method_descriptor")) (hm : MtR X id r) (mz : MtZ Γ r k)
    (hN : X.N[i]? = some y) (hv : Vis X.env.scope y) (hd : (y == ("__debug__" : Str)) = false) (hcd : (y == ("__classdict__" : Str)) = false) (ha : PA X (e :: es) (tA Γ B W fs))
    (hbase : attributeBase (.Name y p) name X.env (eval (.Name y p) X.env) = eval (.Name y p) X.env)
    (hfew : ((backTo pos (starEach (e :: es) X.env)).all (fun x => !x.1) && (backToKw pos (keywordEach [] X.env)).all (fun x => x.1.isSome)
      && decide ((e :: es).length + ([] : List Keyword).length + (if ([] : List Keyword).isEmpty then 0 else 1) < 30)) = true)
    (hline : (apos.endLine == pos.line) = true) (hs : starEach (e :: es) X.env = (false, eval e X.env) :: starEach es X.env) (hplain : (backTo pos (starEach es X.env)).any (·.1) = false) :
    PE X (.Call (.Attribute (.Name y p) name apos) (e :: es) [] pos) (tE Γ B W (zbld i fs k)) := by
  refine PE.imp (pe_bm pa slot hty hm (pe_var hN hv hd hcd) ha hbase hfew hline hs hplain) fun σ H Q ⟨m, z, rl, h⟩ => ?_
  unfold zbld at h
  split at h
  · rename_i hb
    obtain ⟨xs0, hb⟩ := isBld_of hb
    obtain ⟨a, vs0, k1, k2, k3⟩ := bld_at rl hb
    refine ⟨.ref a, k1, .inl ⟨rfl, vs0, SqL.of k2⟩, ?_⟩
    refine bnd rl h fun z1 ds m1 us H1 e1 r1 p1 h1 => ?_
    split at h1
    · rename_i xs q1
      split at h1
      · rename_i d ys q2
        obtain ⟨a', vs, g1, g2, g3⟩ := bld_at r1 q1
        rw [k1] at g1
        cases g1
        exact mz z1 H1 a xs ds ys vs us d Q r1.rf.sub g2 g3 p1 q2 fun v ws w1 w2 => h1 z1 v _ (Ext.refl _) (r1.bldWrite q1 k1 w2) w1
      · exact h1.elim
    · exact h1.elim
  · exact h.elim
def appendK (xs ds : List D) : Option (D × List D) := match ds with
  | [d] => if small xs.length = true then some (.non, xs ++ [d]) else none
  | _ => none
theorem mz_append : MtZ Γ rAppend appendK := by
  intro z H a xs ds ys vs us d Q sub h1 h2 h3 hk q
  unfold appendK at hk
  split at hk
  · split at hk
    · rename_i hs
      cases hk
      obtain ⟨v, rfl, w⟩ := h3.one
      exact ⟨a, vs, v, rfl, rfl, h1, by rw [← h2.length]; exact small_lt hs, q .non _ (Rep.non.mpr rfl) (h2.snoc w)⟩
    · cases hk
  · cases hk
def extendK (xs ds : List D) : Option (D × List D) := match ds with
  | [.lst es] => if small (xs.length + es.length) = true then some (.non, xs ++ es) else none
  | _ => none
theorem mz_extend : MtZ Γ rExtend extendK := by
  intro z H a xs ds ys vs us d Q sub h1 h2 h3 hk q
  unfold extendK at hk
  split at hk
  · split at hk
    · rename_i hs
      cases hk
      obtain ⟨v, rfl, w⟩ := h3.one
      obtain ⟨b, ws, rfl, w1, w2⟩ := Rep.lst.mp w
      exact ⟨a, b, vs, ws, rfl, rfl, h1, sub _ _ w1, by rw [← h2.length, ← w2.length]; exact small_le hs, q .non _ (Rep.non.mpr rfl) (h2.append w2)⟩
    · cases hk
  · cases hk
theorem RepL.erase : ∀ {ds : List D} {vs : List V} (n : Nat), RepL Γ z ds vs → RepL Γ z (ds.eraseIdx n) (vs.eraseIdx n)
  | [], _, _, h => by simp only [RepL] at h; subst h; exact .nil
  | d :: ds, _, 0, h => by
    simp only [RepL] at h
    obtain ⟨v, us, rfl, _, h3⟩ := h
    exact h3
  | d :: ds, _, n + 1, h => by
    simp only [RepL] at h
    obtain ⟨v, us, rfl, h2, h3⟩ := h
    exact .cons h2 (h3.erase n)
def popK (xs ds : List D) : Option (D × List D) := match ds with
  | [.int i] => if decide (0 ≤ i ∧ i < 1000000) = true then (xs[i.toNat]?).map fun d => (d, xs.eraseIdx i.toNat) else none
  | _ => none
theorem mz_pop : MtZ Γ rPopAt popK := by
  intro z H a xs ds ys vs us d Q sub h1 h2 h3 hk q
  unfold popK at hk
  split at hk
  · rename_i i
    split at hk
    · rename_i hs
      have hs := of_decide_eq_true hs
      obtain ⟨d', g1, g2⟩ := Option.map_eq_some_iff.mp hk
      cases g2
      obtain ⟨v, rfl, w⟩ := h3.one
      obtain ⟨y, w1, w2⟩ := h2.get g1
      have hl := (List.getElem?_eq_some_iff.mp w1).1
      exact ⟨a, vs, i, i.toNat, y, rfl, by rw [Rep.int.mp w], h1, by omega, by omega, seqIndex_of hs.1 (by omega), w1, q y _ w2 (h2.erase _)⟩
    · cases hk
  · cases hk
/-- len of slot i's list (or of a value) -/
def zlenP (i : Nat) : Den := fun m => match m.e[i]? with
  | some (.box .l xs) => .ok (.int xs.length) m
  | some (.val d) => ofO (lenD [d]) m
  | _ => .bad
theorem z_lenP {i : Nat} {y : Str} {py : Pos} (hK : X.K = Γ.K) (hN : X.N[i]? = some y) (hv : Vis X.env.scope y) (hd : (y == ("__debug__" : Str)) = false) (hcd : (y == ("__classdict__" : Str)) = false)
    (hg : Gl X "len") (hm : X.mg "len" = none) (hb : bootBuiltins "len" = some (.builtin "len")) (he : starEach [.Name y py] X.env = (false, eval (.Name y py) X.env) :: starEach [] X.env) (hpl : (backTo pos (starEach [] X.env)).any (·.1) = false) :
    PE X (.Call (.Name "len" p) [.Name y py] [] pos) (tE Γ B W (zlenP i)) := by
  refine PE.imp (pe_callB cr_lenZ hg hm hb (pa_cons (pe_var hN hv hd hcd) pa_nil he) (by decide) (by decide) he hpl) fun σ H Q ⟨m, z, rl, h⟩ => ?_
  unfold zlenP at h
  split at h
  · rename_i xs q
    obtain ⟨a, vs, k1, k2, k3⟩ := bld_at rl q
    exact ⟨.ref a, k1, .inl ⟨a, vs, rfl, .inl (SqL.of k2), h z _ H (Ext.refl _) rl (Rep.int.mpr (by rw [k3.length]))⟩⟩
  · rename_i d q
    have hl : i < σ.length := by rw [← rl.len]; exact (List.getElem?_eq_some_iff.mp q).1
    obtain ⟨v, ev, rp⟩ := rl.slot i _ _ q (List.getElem?_eq_getElem hl)
    refine ⟨v, by rw [List.getElem?_eq_getElem hl, ev], ?_⟩
    cases q0 : lenD [d] with
    | none => rw [q0] at h; exact h.elim
    | some c =>
      rw [q0] at h
      rw [hK]
      exact cz_len z m σ H [d] c [v] Q rl (.cons rp .nil) q0 h
  · exact h.elim
/-! ### several values at once, new lists among them -/
mutual
def SlV (Γ : Gm) (B : Bs) (z : Fz) (m : M) (σ : L2.St) (H : Hp) : Sl → V → Prop
  | .un, _ => False
  | .val d, v => Rep Γ z d v
  | .box bk xs, v => ∃ p, v = .ref p ∧ LimB Γ B z m σ H p bk xs
  | .slf, _ => False
end
def isB : Sl → Bool
  | .box _ _ => true
  | _ => false
def SlsOk (Γ : Gm) (B : Bs) (z : Fz) (m : M) (σ : L2.St) (H : Hp) : List Sl → List V → Prop
  | [], vs => vs = []
  | s :: ss, vs => ∃ v ws, vs = v :: ws ∧ SlV Γ B z m σ H s v ∧ SlsOk Γ B z m σ H ss ws ∧ (isB s = true → ∀ (j : Nat) (t : Sl), ss[j]? = some t → isB t = true → ws[j]? ≠ some v)
abbrev rpS (Γ : Gm) (B : Bs) : RpT (List Sl) (List V) := fun z m σ H ss vs => SlsOk Γ B z m σ H ss vs
abbrev tAs (Γ : Gm) (B : Bs) (W : WX) (f : M → R (List Sl)) : TA := tZ Γ B W (rpS Γ B) f
def snil : M → R (List Sl) := fun m => .ok [] m
def sval (f : Den) (g : M → R (List Sl)) : M → R (List Sl) := fun m => (f m).bind fun d m1 => (g m1).bind fun ss m2 => .ok (.val d :: ss) m2
def snew (f : DenL) (g : M → R (List Sl)) : M → R (List Sl) := fun m => (f m).bind fun xs m1 => (g m1).bind fun ss m2 => .ok (.bld xs :: ss) m2
theorem s_nil : PA X [] (tAs Γ B W snil) := PA.imp pa_nil fun σ H Q ⟨m, z, r, h⟩ => h z [] H (Ext.refl _) r rfl
theorem s_val {gs : M → R (List Sl)} (ha : PE X e (tE Γ B W f)) (hr : PA X es (tAs Γ B W gs)) (hs : starEach (e :: es) X.env = (false, eval e X.env) :: starEach es X.env) : PA X (e :: es) (tAs Γ B W (sval f gs)) := by
  refine PA.imp (pa_cons ha hr hs) fun σ H Q ⟨m, z, rl, h⟩ => ?_
  refine bnd rl h fun z1 d m1 x H1 e1 r1 p1 h1 => bnd r1 h1 fun z2 ds m2 xs H2 e2 r2 p2 h2 => ?_
  exact h2 z2 (x :: xs) H2 (Ext.refl _) r2 ⟨x, xs, rfl, Rep.mono e2 d p1, p2, fun q => nomatch q⟩
theorem SlV.mono {s : Sl} {v : V} {m' : M} (h : SlV Γ B z m σ H s v) (r : Rl Γ B z m σ H) (r' : Rl Γ (Bs.here B m z σ H) z' m' σ H') : SlV Γ B z' m' σ H' s v := by
  cases s with
  | slf => exact h
  | un => exact h
  | val d => exact Rep.mono r'.sn.ext d h
  | box bk xs => obtain ⟨p, e, l⟩ := h; exact ⟨p, e, l.through r r'⟩
theorem SlsOk.unbase {m' : M} (r : Rl Γ B z m σ H) (r' : Rl Γ (Bs.here B m z σ H) z' m' σ H') : ∀ {ss : List Sl} {vs : List V}, SlsOk Γ (Bs.here B m z σ H) z' m' σ H' ss vs → SlsOk Γ B z' m' σ H' ss vs
  | [], _, h => h
  | s :: ss, _, ⟨v, ws, e, h1, h2, h3⟩ => ⟨v, ws, e, by
      cases s with
      | slf => exact h1
      | un => exact h1
      | val d => exact h1
      | box bk xs =>
        obtain ⟨p, e, l⟩ := h1
        refine ⟨p, e, l.ex, l.g, l.r, ?_, l.sl⟩
        rcases l.b with q | q
        · exact .inl (r.sn.back q)
        · exact blds_of r p q, SlsOk.unbase r r' h2, h3⟩
theorem SlsOk.new {m' : M} {p : Addr} {o : HO} (hp : H p = some o) (px : p ∉ blds m.e σ) : ∀ {ss : List Sl} {vs : List V}, SlsOk Γ (Bs.here B m z σ H) z' m' σ H' ss vs → ∀ (j : Nat) (t : Sl), ss[j]? = some t → isB t = true → vs[j]? ≠ some (.ref p)
  | [], _, _, j, t, e, _ => by simp at e
  | s :: ss, _, ⟨v, ws, rfl, h1, h2, h3⟩, 0, t, e, hb => by
    simp at e
    subst e
    cases s with
    | slf => exact nomatch hb
    | box bk xs =>
      obtain ⟨q, e, l⟩ := h1
      subst e
      intro k
      simp at k
      subst k
      rcases l.b with w | w
      · rw [show H q = none from w] at hp; cases hp
      · exact px w
    | un => cases hb
    | val d => cases hb
  | s :: ss, _, ⟨v, ws, rfl, h1, h2, h3⟩, j + 1, t, e, hb => by
    have q := SlsOk.new hp px h2 j t (by simpa using e) hb
    simpa using q
theorem s_new {k : DenL} {gs : M → R (List Sl)} (ha : PE X e (tF Γ B W k)) (hr : ∀ B, PA X es (tAs Γ B W gs)) (hs : starEach (e :: es) X.env = (false, eval e X.env) :: starEach es X.env) : PA X (e :: es) (tAs Γ B W (snew k gs)) := by
  refine PA.imp (pa_cons ha (t := fun σ H Q => ∃ B, tAs Γ B W gs σ H Q) ⟨fun pos pins s σ H Q I ⟨B, w⟩ => (hr B).run pos pins s σ H Q I w⟩ hs) fun σ H Q ⟨m, z, rl, h⟩ => ?_
  refine bnd rl h fun z1 xs m1 x H1 e1 r1 p1 h1 => ?_
  obtain ⟨p, rfl, l⟩ := p1
  refine ⟨Bs.here B m1 z1 σ H1, m1, z1, r1.rebase, ?_⟩
  cases eg : gs m1 with
  | bad => rw [eg] at h1; exact h1
  | exc c d m2 =>
    rw [eg] at h1
    exact fun z2 dx u H2 x2 r2 => h1 z2 dx u H2 x2 (Rl.unbase r1 r2)
  | ok ss m2 =>
    rw [eg] at h1
    intro z2 vs H2 x2 r2 p2
    obtain ⟨us, g1, g2⟩ := l.ex
    have px : p ∉ blds m1.e σ := fun h => by
      obtain ⟨i, ky, ys, k1, k2⟩ := mem_blds.mp h
      exact l.sl i ky ys k1 k2
    exact h1 z2 _ H2 x2 (Rl.unbase r1 r2) ⟨.ref p, vs, rfl, ⟨p, rfl, l.through r1 r2⟩, SlsOk.unbase r1 r2 p2, fun _ j t e hb => SlsOk.new g1 px p2 j t e hb⟩
/-- the slots are set one by one -/
def setAll : List Nat → List Sl → M → M
  | i :: is, s :: ss, m => setAll is ss ⟨m.e.set i s, m.S⟩
  | _, _, m => m
def setσ : List Nat → List V → L2.St → L2.St
  | i :: is, v :: vs, σ => setσ is vs (σ.set i (some v))
  | _, _, σ => σ
theorem SlsOk.after {i : Nat} {s : Sl} {v : V} : ∀ {ss : List Sl} {vs : List V}, SlsOk Γ B z m σ H ss vs → (isB s = true → ∀ (j : Nat) (t : Sl), ss[j]? = some t → isB t = true → vs[j]? ≠ some v) → SlsOk Γ B z ⟨m.e.set i s, m.S⟩ (σ.set i (some v)) H ss vs
  | [], _, h, _ => h
  | t :: ss, _, ⟨u, ws, rfl, h1, h2, h3⟩, hn => by
    refine ⟨u, ws, rfl, ?_, SlsOk.after h2 (fun hb j r e hr => by simpa using hn hb (j + 1) r (by simpa using e) hr), h3⟩
    cases t with
    | slf => exact h1
    | un => exact h1
    | val d => exact h1
    | box bk xs =>
      obtain ⟨p, rfl, l⟩ := h1
      refine ⟨p, rfl, l.ex, l.g, l.r, l.b, fun j ky ys e1 e2 => ?_⟩
      have e1 : (m.e.set i s)[j]? = some (.box ky ys) := e1
      by_cases hj : i = j
      · subst hj
        have hl := (List.getElem?_eq_some_iff.mp e1).1
        rw [List.length_set] at hl
        rw [List.getElem?_set_self hl] at e1
        cases e1
        have hl2 := (List.getElem?_eq_some_iff.mp e2).1
        rw [List.length_set] at hl2
        rw [List.getElem?_set_self hl2] at e2
        have e3 : v = .ref p := Option.some.inj (Option.some.inj e2)
        exact hn rfl 0 _ rfl rfl (by rw [e3]; rfl)
      · rw [List.getElem?_set_ne hj] at e1 e2
        exact l.sl j ky ys e1 e2
theorem Rl.setAll : ∀ {is : List Nat} {ss : List Sl} {vs : List V} {m : M} {σ : L2.St}, Rl Γ B z m σ H → SlsOk Γ B z m σ H ss vs → is.length = ss.length → Rl Γ B z (setAll is ss m) (setσ is vs σ) H
  | [], [], _, _, _, r, h, _ => by
    have h : _ = [] := h
    subst h
    exact r
  | i :: is, s :: ss, _, m, σ, r, ⟨v, ws, rfl, h1, h2, h3⟩, hl => by
    have r1 : Rl Γ B z ⟨m.e.set i s, m.S⟩ (σ.set i (some v)) H := by
      cases s with
      | slf => exact h1.elim
      | un => exact h1.elim
      | val d => exact r.setVal h1
      | box bk xs => obtain ⟨p, rfl, l⟩ := h1; exact l.setBox r
    show Rl Γ B z (Z.setAll is ss ⟨m.e.set i s, m.S⟩) (setσ is ws (σ.set i (some v))) H
    exact Rl.setAll r1 (h2.after h3) (by simpa using hl)
def zpar (is : List Nat) (fs : M → R (List Sl)) : DenS := fun m => (fs m).thenS fun ss m1 => if ss.length = is.length then .nx (setAll is ss m1) else .bad
theorem SlsOk.length : ∀ {ss : List Sl} {vs : List V}, SlsOk Γ B z m σ H ss vs → ss.length = vs.length
  | [], _, h => by have h : _ = [] := h; subst h; rfl
  | s :: ss, _, ⟨v, ws, rfl, _, h2, _⟩ => by simp [SlsOk.length h2]
variable {k2 : Nat} {pt pt2 px py : Pos} {kt : Nat} {gs : M → R (List Sl)}
theorem z_par2 {i j : Nat} {u v : Str} {a b : Expr} (hc : X.calm = true) (hN : X.N.Nodup) (hi : X.N[i]? = some u) (hj : X.N[j]? = some v) (hij : i ≠ j)
    (hx : X.env.scope.names.lookup u = some .local) (hy : X.env.scope.names.lookup v = some .local) (ha : PA X [a, b] (tAs Γ B W gs))
    (hw : swappedStores [.Tuple [.Name u px, .Name v py] kt pt] (.Tuple [a, b] k2 pt2) X.env = pure (some [u, v]))
    (hs : swapsWithSole [.Tuple [.Name u px, .Name v py] kt pt] (.Tuple [a, b] k2 pt2) pos.line X.env = pure false) :
    PS X (.Assign [.Tuple [.Name u px, .Name v py] kt pt] (.Tuple [a, b] k2 pt2) pos) (tS Γ B W (zpar [i, j] gs)) := by
  refine PS.imp (ps_par hc hN hi hj hij hx hy ha hw hs) fun E σ H ⟨m, z, rl, h⟩ => ?_
  refine bndS rl h fun z1 ss m1 vs H1 e1 r1 p1 h1 => ?_
  split at h1
  · rename_i hl
    have r2 := Rl.setAll (is := [i, j]) r1 p1 hl.symm
    have hv : vs.length = 2 := by rw [← p1.length]; exact hl
    match vs, hv with
    | [x, y], _ => exact ⟨x, y, rfl, h1 z1 _ H1 (Ext.refl _) r2⟩
  · exact h1.elim
theorem z_par3 {i j l : Nat} {u v w : Str} {a b c : Expr} {pz : Pos} (hc : X.calm = true) (hN : X.N.Nodup) (hi : X.N[i]? = some u) (hj : X.N[j]? = some v) (hl : X.N[l]? = some w) (hij : i ≠ j) (hil : i ≠ l) (hjl : j ≠ l)
    (hx : X.env.scope.names.lookup u = some .local) (hy : X.env.scope.names.lookup v = some .local) (hz : X.env.scope.names.lookup w = some .local) (ha : PA X [a, b, c] (tAs Γ B W gs))
    (hw : swappedStores [.Tuple [.Name u px, .Name v py, .Name w pz] kt pt] (.Tuple [a, b, c] k2 pt2) X.env = pure (some [u, v, w]))
    (hs : swapsWithSole [.Tuple [.Name u px, .Name v py, .Name w pz] kt pt] (.Tuple [a, b, c] k2 pt2) pos.line X.env = pure false) :
    PS X (.Assign [.Tuple [.Name u px, .Name v py, .Name w pz] kt pt] (.Tuple [a, b, c] k2 pt2) pos) (tS Γ B W (zpar [i, j, l] gs)) := by
  refine PS.imp (ps_par3 hc hN hi hj hl hij hil hjl hx hy hz ha hw hs) fun E σ H ⟨m, z, rl, h⟩ => ?_
  refine bndS rl h fun z1 ss m1 vs H1 e1 r1 p1 h1 => ?_
  split at h1
  · rename_i hl
    have r2 := Rl.setAll (is := [i, j, l]) r1 p1 hl.symm
    have hv : vs.length = 3 := by rw [← p1.length]; exact hl
    match vs, hv with
    | [x, y, t], _ => exact ⟨x, y, t, rfl, h1 z1 _ H1 (Ext.refl _) r2⟩
  · exact h1.elim
/-- the general way: the tuple is made, then taken apart -/
def gNames : List Nat → TGs
  | [] => gNil
  | i :: is => gCons (gName i) (gNames is)
theorem gNames_of {Q : L2.St → Hp → Prop} : ∀ {is : List Nat} {vs : List V} {σ : L2.St}, is.length = vs.length → Q (setσ is vs σ) H → gNames is vs σ H Q
  | [], [], _, _, q => ⟨rfl, q⟩
  | i :: is, v :: vs, σ, hl, q => ⟨v, vs, rfl, gNames_of (by simpa using hl) q⟩
theorem z_parN {is : List Nat} {ts : List Expr} (hK : X.K = Γ.K) (hc : X.calm = true) (ha : PA X es (tAs Γ B W gs)) (hts : PGs X ts (gNames is)) (hn : (assignEach ts X.env).length = is.length) (hst : (assignEach ts X.env).findIdx? (·.1) = none)
    (hs : swapsWithSole [.Tuple ts kt pt] (.Tuple es k2 pt2) pos.line X.env = pure false) (hw : swappedStores [.Tuple ts kt pt] (.Tuple es k2 pt2) X.env = pure none) (h1 : (assignEach [.Tuple ts kt pt] X.env).map (·.2) = [assign (.Tuple ts kt pt) X.env]) (hsm : is.length ≤ 1000) :
    PS X (.Assign [.Tuple ts kt pt] (.Tuple es k2 pt2) pos) (tS Γ B W (zpar is gs)) := by
  refine PS.imp (ps_asg (pe_tup ha) (pg_tup hc hts hn hst) hs hw h1) fun E σ H ⟨m, z, rl, h⟩ => ?_
  refine bndS rl h fun z1 ss m1 vs H1 e1 r1 p1 h1 => ?_
  split at h1
  · rename_i hl
    have hv : vs.length = is.length := by rw [← p1.length]; exact hl
    refine ⟨by rw [hv]; exact Nat.le_trans hsm (by decide), fun t ht => ⟨t, vs, rfl, SqT.of upd_same, hv, ?_⟩⟩
    refine gNames_of hv.symm ?_
    have r2 : Rl Γ B z1 m1 σ (upd H1 t (.tup vs)) := r1.call (r1.rf.limbo ht) (sn_limbo ht)
    have p2 : SlsOk Γ B z1 m1 σ (upd H1 t (.tup vs)) ss vs := by
      have go : ∀ (ss : List Sl) (vs : List V) (o : HO), SlsOk Γ B z1 m1 σ H1 ss vs → SlsOk Γ B z1 m1 σ (upd H1 t o) ss vs := by
        intro ss
        induction ss with
        | nil => intro vs o h; exact h
        | cons s ss ih =>
          rintro vs o ⟨v, ws, rfl, h1, h2, h3⟩
          refine ⟨v, ws, rfl, ?_, ih ws o h2, h3⟩
          cases s with
          | slf => exact h1
          | un => exact h1
          | val d => exact h1
          | box bk xs =>
            obtain ⟨p, rfl, l⟩ := h1
            obtain ⟨us, k1, k2⟩ := l.ex
            exact ⟨p, rfl, ⟨us, by rw [upd_ne (ne_of_none k1 ht)]; exact k1, k2⟩, l.g, l.r, l.b, l.sl⟩
      exact go ss vs _ p1
    exact h1 z1 _ _ (Ext.refl _) (Rl.setAll r2 p2 hl.symm)
  · exact h1.elim
end
end Z

set_option Elab.async false
set_option linter.all false
set_option maxRecDepth 100000
set_option maxHeartbeats 2000000
/-! Z7: defs as functions of data; calls -/
namespace Z
open PySem PySem.Spec PyProof.Rows L2 RZ

/-- a def's answer: a value or an error, and the store -/
inductive RF where
  | ok (d : D) (S : List (List D)) | exc (c : Nat) (d : D) (S : List (List D)) | bad
abbrev Fn := List D → List (List D) → RF
def PoF (Γ : Gm) (z : Fz) (H : Hp) (r : RF) (Q : VK) (E : XK) : Prop := match r with
  | .ok d S => ∀ z' v H', Sn [] z z' H H' → Rf Γ z' S H' → Rep Γ z' d v → Q v H'
  | .exc c d S => ∀ z' dx u H', Sn [] z z' H H' → Rf Γ z' S H' → z'.G dx = some (.xd [(("value" : Str), u)]) → Rep Γ z' d u → E (.ref (Γ.cls c)) (some dx) H'
  | .bad => False
def spZ (Γ : Gm) (n : Nat) (φ : Fn) : Sp := fun vs H Q E => vs.length = n ∧ ∃ z ds S, Rf Γ z S H ∧ RepL Γ z ds vs ∧ PoF Γ z H (φ ds S) Q E
/-- a def keeps its promise wherever nothing is being shown (repr) -/
structure FnG (P : Program) (w : World) (K : PySem.W.Frag) (mg : Str → Option Value) (base : Heap) (k : Nat) (f : Addr) (fd : FuncData) (ps : List Str) (sp : Sp) : Prop where
  len : ∀ vs H Q E, sp vs H Q E → vs.length = ps.length
  run : ∀ (A : Around) (outer : List Env) (s : Shared) (H : Hp) (args : Args) (us : List Value) (vs : List V) (Q : VK) (E : XK), A.guards = some [] → Room k A → Env0 P w K mg base A outer s H → BindsTo s fd args (ps.zip us) → Vals vs us → sp vs H Q E →
    codeAny (model P w) A (.call (.ref f) args) (CR (L2.CX P w) outer P w H s Q E) s
theorem FnG.mono {P : Program} {w : World} {K : PySem.W.Frag} {mg : Str → Option Value} {base : Heap} {j k : Nat} {f : Addr} {fd : FuncData} {ps : List Str} {sp : Sp} (F : FnG P w K mg base j f fd ps sp) (h : j ≤ k) : FnG P w K mg base k f fd ps sp :=
  ⟨F.len, fun A outer s H args us vs Q E hg hr => F.run A outer s H args us vs Q E hg (hr.mono h)⟩

section
variable {P : Program} {w : World} {K : PySem.W.Frag} {mg : Str → Option Value} {base : Heap}
/-- a def by its body -/
theorem fnG_of {k : Nat} {f : Addr} {nm q : Str} {params : Arguments} {body : List Stmt} {sc : Scope} {dV kV doc pm cdv ct oc : Value} {an od : Option Addr} {osl : Array (Option Value)} {N ps : List Str} {sp : Sp}
    (lk : K.lookup f = some ⟨oc, od, .func (PySem.W.fnOf nm q params body sc dV kV doc pm an cdv ct), osl⟩) (hcd : PySem.W.codeIn K cdv q = true) (S : FnScope N ps sc)
    (len : ∀ vs H Q E, sp vs H Q E → vs.length = ps.length)
    (hb : ∀ (A : Around) (outer : List Env) (s : Shared) (H : Hp) (vs : List V) (Q : VK) (E : XK), A.guards = some [] → Room k (A.deeper (envOfC q sc s.heap.objs.size f cdv)) → sp vs H Q E →
      ∃ t, PSs (cxOf (L2.CX P w) P w K mg base N q sc f cdv A outer s H E) body t ∧ t { nx := fun _ H' => Q .non H', rt := Q } (start N vs) H) :
    FnG P w K mg base (k + 1) f (PySem.W.fnOf nm q params body sc dV kV doc pm an cdv ct) ps sp := by
  refine ⟨len, fun A outer s H args us vs Q E hg hr e0 bd r hsp => ?_⟩
  have old : ∀ b o, base.get? b = some o → s.heap.get? b = some o := fun b o e => (e0.bs b o e).1
  have ki : K.In s.heap := e0.mod.kin.keeps old
  have nol : s.heap.NoLimit := e0.mod.nolimit.keeps old
  have kinds : ∀ y ∈ ps.zip us, sc.names.lookup y.1 = some .local ∨ (sc.names.lookup y.1 = some .cell ∧ ((cellsFrom (s.heap.objs.size + 1) sc.names []).lookup y.1).isSome = true) := fun y hy =>
    (S.par y.1 (List.of_mem_zip (a := y.1) (b := y.2) hy).1).imp id fun c => ⟨c, PySem.W.cellsFrom_some _ _ _ (.inl c)⟩
  refine codeAny_call_function hr.depth (ki _ _ lk) rfl S.co S.gen rfl (PySem.W.codeRec_of ki hcd) (bd _ _ _ _ (wpAny_newFunctionEnv_cells S.kind kinds fun env he s1 x => ?_))
  subst he
  refine ⟨nol.keeps x.toInCall.keep, codeAny_func ?_⟩
  obtain ⟨t, ht, hq⟩ := hb A outer s H vs Q E hg (hr.deeper _) hsp
  have I0 := inv_start (CX := L2.CX P w) (N := N) (f := f) (cd := cdv) (qual := q) (E := E) S hr.hd e0 (len _ _ _ _ hsp) r x
  refine wpAny_mono (ht.run [] s1 (start N vs) H _ I0 hq) (fun fl s' hs => ?_) fun e s' hs => hs
  cases fl with
  | next => obtain ⟨σ', H', J, q'⟩ := hs; exact ⟨.non, H', J.os, J.bare, J.base, J.hok, rfl, q'⟩
  | ret u => obtain ⟨v, σ', H', J, rv, q'⟩ := hs; exact ⟨v, H', J.os, J.bare, J.base, J.hok, rv, q'⟩
  | brk => exact hs.elim fun _ hs => hs.elim fun _ hs => hs.2.elim
  | cont => exact hs.elim fun _ hs => hs.elim fun _ hs => hs.2.elim
end

section
variable {Γ : Gm} {B : Bs} {W : WX} {X : Cx} {σ : L2.St} {H : Hp} {z : Fz} {m : M} {k : Nat} {f : Addr} {fd : FuncData} {ps : List Str} {φ : Fn} {x : Str} {p pos : Pos} {e : Expr} {es : List Expr} {fs : DenL} {ds : List Value} {dvs : List V} {dd : List D}
/-- the callee's answer in the caller -/
def backR (r : RF) (m : M) : R D := match r with
  | .ok d S => .ok d ⟨m.e, S⟩
  | .exc c d S => .exc c d ⟨m.e, S⟩
  | .bad => .bad
def zcall (φ : Fn) (dd : List D) (fs : DenL) : Den := fun m => (fs m).bind fun ds m1 => backR (φ (ds ++ dd) m1.S) m1
theorem call_conv {n : Nat} {us : List V} {ds : List D} {Q : VK} (rl : Rl Γ B z m σ H) (rp : RepL Γ z ds us) (hn : us.length = n) (h : Po Γ B W (rpE Γ) σ z (backR (φ ds m.S) m) Q) : spZ Γ n φ us H Q (WE W σ) := by
  refine ⟨hn, z, ds, m.S, rl.rf, rp, ?_⟩
  cases e : φ ds m.S with
  | bad => rw [e] at h; exact h
  | ok d S =>
    rw [e] at h
    exact fun z' v H' st f r => h z' v H' st.ext (rl.call f st) r
  | exc c d S =>
    rw [e] at h
    exact fun z' dx u H' st f g r => h z' dx u H' st.ext (rl.call f st) g r
theorem run_fnG {pins : List (Addr × Obj)} {s : Shared} {Q : VK} {us : List Value} {vs : List V} {sp : Sp} (F : FnG X.prog X.w X.K X.mg X.base k f fd ps sp) (hg : X.A.guards = some []) (hr : Room k X.A) (hb : Binds X.K fd ps ds) (hd : Vals dvs ds) (tk : Takes X W)
    (I : Inv X pins σ H s) (r : Vals vs us) (h : sp (vs ++ dvs) H Q (WE W σ)) : wpAny (model X.prog X.w) X.A (call (.ref f) us) (EP X pins σ Q) X.xe s := by
  have r2 : Vals (vs ++ dvs) (us ++ ds) := r.append hd
  have hl : (us ++ ds).length = ps.length := r2.length.symm.trans (F.len _ _ _ _ h)
  refine wpAny_call (codeAny_mono (F.run X.A X.stack s H ⟨us, []⟩ (us ++ ds) (vs ++ dvs) Q (WE W σ) hg hr I.env0 (hb s us I.kIn hl) r2 h) fun r s' hq => ?_)
  match r, hq with
  | .error e, hq => exact passAt tk σ pins H s e s' I hq
  | .ok (.ret u), hq => exact I.after hq
theorem z_call {n : Nat} (F : FnG X.prog X.w X.K X.mg X.base k f fd ps (spZ Γ n φ)) (hgd : X.A.guards = some []) (hr : Room k X.A) (hg : Gl X x) (hm : X.mg x = some (.ref f)) (hk : PySem.W.keepIn X.K (.ref f) = true) (hb : Binds X.K fd ps ds) (hd : Vals dvs ds) (hdd : ∀ z, RepL Γ z dd dvs) (tk : Takes X W)
    (ha : PA X (e :: es) (tA Γ B W fs)) (hn : (e :: es).length + dd.length = n) (hdb : (x == ("__debug__" : Str)) = false) (he : starEach (e :: es) X.env = (false, eval e X.env) :: starEach es X.env) (hpl : (backTo pos (starEach es X.env)).any (·.1) = false) (hlen : ∀ m ds m1, fs m = .ok ds m1 → ds.length = (e :: es).length) :
    PE X (.Call (.Name x p) (e :: es) [] pos) (tE Γ B W (zcall φ dd fs)) := by
  refine ⟨fun pins s σ H Q I ⟨m, z, rl, h⟩ => ?_⟩
  have hA : tA Γ B W fs σ H fun vs H1 => spZ Γ n φ (vs ++ dvs) H1 Q (WE W σ) := by
    refine ⟨m, z, rl, ?_⟩
    cases e0 : fs m with
    | bad => have h' : Po Γ B W (rpE Γ) σ z ((fs m).bind fun ds m1 => backR (φ (ds ++ dd) m1.S) m1) Q := h; rw [e0] at h'; exact h'
    | exc c d m1 => have h' : Po Γ B W (rpE Γ) σ z ((fs m).bind fun ds m1 => backR (φ (ds ++ dd) m1.S) m1) Q := h; rw [e0] at h'; exact h'
    | ok ds m1 =>
      have h' : Po Γ B W (rpE Γ) σ z ((fs m).bind fun ds m1 => backR (φ (ds ++ dd) m1.S) m1) Q := h
      rw [e0] at h'
      intro z1 us H1 x1 r1 p1
      have hl := hlen m ds m1 e0
      have q := p1.append (hdd z1)
      refine call_conv r1 q ?_ (Po.mono h' x1)
      rw [← q.length, List.length_append, hl, hn]
  refine wpAny_Call_Name_kw (ld_glob I hg hm ?_ hdb)
  refine PySem.W.callWith_K (h₀ := X.base) I.ok.mod.kin hk (thn (ha.run pos pins s σ H _ I hA) fun us s1 ⟨vs, H1, I1, r, q⟩ => ⟨I1.kIn, ?_⟩) he hpl
  exact run_fnG F hgd hr hb hd tk I1 r q
theorem z_call0 {n : Nat} (F : FnG X.prog X.w X.K X.mg X.base k f fd ps (spZ Γ n φ)) (hgd : X.A.guards = some []) (hr : Room k X.A) (hg : Gl X x) (hm : X.mg x = some (.ref f)) (hk : PySem.W.keepIn X.K (.ref f) = true) (hb : Binds X.K fd ps ds) (hd : Vals dvs ds) (hdd : ∀ z, RepL Γ z dd dvs) (tk : Takes X W)
    (hn : dd.length = n) (hdb : (x == ("__debug__" : Str)) = false) : PE X (.Call (.Name x p) [] [] pos) (tE Γ B W (zcall φ dd znil)) := by
  refine ⟨fun pins s σ H Q I ⟨m, z, rl, h⟩ => ?_⟩
  refine wpAny_Call_Name_kw (ld_glob I hg hm ?_ hdb)
  refine PySem.W.callWith_K0 I.kIn hk (run_fnG (us := []) (vs := []) F hgd hr hb hd tk I .nil ?_)
  exact call_conv rl (hdd z) (by show dvs.length = n; rw [← (hdd z).length]; exact hn) h

/-! ### a def's own function -/
def padE (N : List Str) (ds : List D) : List Sl := ds.map .val ++ List.replicate (N.length - ds.length) .un
def endR (r : RS) : RF := match r with
  | .rt d m => .ok d m.S
  | .nx m => .ok .non m.S
  | .exc c d m => .exc c d m.S
  | _ => .bad
def bodyFn (N : List Str) (n : Nat) (f : DenS) : Fn := fun ds S => if ds.length = n then endR (f ⟨padE N ds, S⟩) else .bad
theorem start_rl {N : List Str} {vs : List V} {ds : List D} {S : List (List D)} (rf : Rf Γ z S H) (rp : RepL Γ z ds vs) : Rl Γ ⟨H, z, [], 0, false⟩ z ⟨padE N ds, S⟩ (start N vs) H := by
  have el := rp.length
  refine ⟨rf, Sn.refl _ _ _, by simp [padE, L2.start, el], fun i s w h1 h2 => ?_, fun i j kx ky xs ys a _ h1 _ _ _ => ?_⟩
  · have h1 : (padE N ds)[i]? = some s := h1
    unfold padE at h1
    unfold L2.start at h2
    by_cases hi : i < ds.length
    · rw [List.getElem?_append_left (by simpa using hi), List.getElem?_map] at h1
      rw [List.getElem?_append_left (by simpa [← el] using hi), List.getElem?_map] at h2
      rw [List.getElem?_eq_getElem hi] at h1
      cases h1
      obtain ⟨v, k1, k2⟩ := rp.get (List.getElem?_eq_getElem hi)
      rw [k1] at h2
      cases h2
      exact ⟨v, rfl, k2⟩
    · rw [List.getElem?_append_right (by simpa using hi), List.getElem?_replicate] at h1
      split at h1
      · cases h1; trivial
      · cases h1
  · have h1 : (padE N ds)[i]? = some (.box kx xs) := h1
    unfold padE at h1
    by_cases hi : i < ds.length
    · rw [List.getElem?_append_left (by simpa using hi), List.getElem?_map, List.getElem?_eq_getElem hi] at h1
      cases h1
    · rw [List.getElem?_append_right (by simpa using hi), List.getElem?_replicate] at h1
      split at h1
      · cases h1
      · cases h1
theorem body_conv {N : List Str} {n : Nat} {g : DenS} {vs : List V} {Q : VK} {E : XK} (h : spZ Γ n (bodyFn N n g) vs H Q E) :
    ∃ z, tS Γ ⟨H, z, [], 0, false⟩ (fun c d _ H => E c d H) g { nx := fun _ H' => Q .non H', rt := Q } (start N vs) H := by
  obtain ⟨hn, z, ds, S, rf, rp, po⟩ := h
  refine ⟨z, ⟨padE N ds, S⟩, z, start_rl rf rp, ?_⟩
  unfold bodyFn at po
  rw [if_pos (by rw [rp.length]; exact hn)] at po
  cases e : g ⟨padE N ds, S⟩ with
  | nx m => rw [e] at po; exact fun z' σ' H' x r => po z' .non H' r.sn r.rf (Rep.non.mpr rfl)
  | rt d m => rw [e] at po; exact fun z' v σ' H' x r p => po z' v H' r.sn r.rf p
  | bk m => rw [e] at po; exact po.elim
  | ct m => rw [e] at po; exact po.elim
  | exc c d m => rw [e] at po; exact fun z' dx u σ' H' x r g p => po z' dx u H' r.sn r.rf g p
  | bad => rw [e] at po; exact po.elim
/-- the rule for a def of the text: its body's denotation, whatever the entry is -/
theorem FunD.okZ {P : Program} {w : World} {K : PySem.W.Frag} {mg : Str → Option Value} {base : Heap} {q : Str} {params : Arguments} {body : List Stmt} {sc : Scope} {dvs : List V} {kws : List (Str × V)} {N : List Str} {n : Nat} {g : DenS} (F : FunD K x q params body sc dvs kws f fd) (S : FnScope N ps sc) (hn : n = ps.length)
    (hb : ∀ (cdv : Value) (A : Around) (outer : List Env) (s : Shared) (H : Hp) (E : XK) (z : Fz), A.guards = some [] → Room k (A.deeper (envOfC q sc s.heap.objs.size f cdv)) →
      PSs (cxOf (L2.CX P w) P w K mg base N q sc f cdv A outer s H E) body (tS Γ ⟨H, z, [], 0, false⟩ (fun c d _ H => E c d H) g)) : FnG P w K mg base (k + 1) f fd ps (spZ Γ n (bodyFn N n g)) := by
  obtain ⟨oc, od, dV, kV, doc, pm, an, cdv, ct, osl, rfl, lk, hcd, _, _⟩ := F.ex
  refine fnG_of lk hcd S (fun vs H Q E h => by rw [← hn]; exact h.1) fun A outer s H vs Q E hg hr h => ?_
  obtain ⟨z, hz⟩ := body_conv h
  exact ⟨_, hb cdv A outer s H E z hg hr, hz⟩
end
end Z

set_option Elab.async false
set_option linter.all false
set_option maxRecDepth 100000
set_option maxHeartbeats 2000000
/-! Z8: slices, tuple * int, isinstance, repr -/
namespace Z
open PySem PySem.Spec PyProof.Rows L2 RZ

section
variable {Γ : Gm} {B : Bs} {W : WX} {X : Cx} {σ : L2.St} {H : Hp} {z z' : Fz} {m : M} {x : Str} {p pos : Pos} {e : Expr} {es : List Expr} {f g : Den}
/-! ### slices -/
def cutL {α : Type} (xs : List α) (lo hi : Option Int) : List α := (xs.drop (HT.sIx xs.length 0 lo)).take (HT.sIx xs.length xs.length hi - HT.sIx xs.length 0 lo)
theorem cut_rep {ds : List D} {vs : List V} (h : RepL Γ z ds vs) (lo hi : Option Int) : RepL Γ z (cutL ds lo hi) (cutV vs lo hi) := by
  unfold cutL cutV
  rw [h.length]
  exact (h.drop _).take _
def sliceD (d : D) (lo hi : Option Int) : Option D := match d with
  | .tup xs => some (.tup (cutL xs lo hi))
  | .lst xs => some (.lst (cutL xs lo hi))
  | .str s => if small s.length = true then some (.str (cutS s lo hi)) else none
  | _ => none
abbrev rSlZ (K : PySem.W.Frag) : V → Option Int → Option Int → Hp → VK → Prop := fun x lo hi H Q => rSlL K x lo hi H Q ∨ (rSlA K x lo hi H Q ∨ rSlS x lo hi H Q)
theorem sl_Z : SlR X (rSlZ X.K) := SlR.or sl_list (SlR.or sl_tupA sl_str)
abbrev DenO := M → R (Option Int)
def onone : DenO := fun m => .ok none m
def osome (f : Den) : DenO := fun m => (f m).bind fun d m1 => match d with
  | .int i => .ok (some i) m1
  | _ => .bad
abbrev rpO : RpT (Option Int) (Option Int) := fun _ _ _ _ a b => b = a
abbrev tO (Γ : Gm) (B : Bs) (W : WX) (f : DenO) : TO := tZ Γ B W rpO f
theorem PO.imp {e : Option Expr} {t t' : TO} (h : PO X e t) (q : ∀ σ H Q, t' σ H Q → t σ H Q) : PO X e t' := ⟨fun pins s σ H Q I w => h.run pins s σ H Q I (q σ H Q w)⟩
theorem o_none : PO X none (tO Γ B W onone) := PO.imp po_none fun σ H Q ⟨m, z, rl, h⟩ => h z none H (Ext.refl _) rl rfl
theorem o_some (ha : PE X e (tE Γ B W f)) : PO X (some e) (tO Γ B W (osome f)) := by
  refine PO.imp (po_some ha) fun σ H Q ⟨m, z, rl, h⟩ => ?_
  refine bnd rl h fun z1 d m1 x H1 e1 r1 p1 h1 => ?_
  cases d with
  | int i => exact ⟨i, Rep.int.mp p1, h1 z1 _ H1 (Ext.refl _) r1 rfl⟩
  | _ => exact h1.elim
def zslice (f : Den) (lo hi : DenO) : Den := fun m => (f m).bind fun d m1 => (lo m1).bind fun l m2 => (hi m2).bind fun h m3 => ofO (sliceD d l h) m3
theorem z_slice {lo hi : Option Expr} {fl fh : DenO} {p2 : Pos} (hK : X.K = Γ.K) (ha : PE X e (tE Γ B W f)) (hl : PO X lo (tO Γ B W fl)) (hh : PO X hi (tO Γ B W fh)) : PE X (.Subscript e (.Slice lo hi none p2) pos) (tE Γ B W (zslice f fl fh)) := by
  refine PE.imp (pe_slice sl_Z ha hl hh) fun σ H Q ⟨m, z, rl, h⟩ => ?_
  refine bnd rl h fun z1 d m1 x H1 e1 r1 p1 h1 => bnd r1 h1 fun z2 l m2 l' H2 e2 r2 p2 h2 => bnd r2 h2 fun z3 u m3 u' H3 e3 r3 p3 h3 => ?_
  subst p2; subst p3
  have w1 := Rep.mono (e2.trans e3) d p1
  cases q0 : sliceD d l' u' with
  | none => rw [q0] at h3; exact h3.elim
  | some c =>
    rw [q0] at h3
    rw [hK]
    unfold sliceD at q0
    split at q0
    · cases q0
      obtain ⟨a, us, rfl, k1, k2⟩ := Rep.tup.mp w1
      refine .inr (.inl ⟨a, us, rfl, r3.sqT k1, fun hw => ?_, fun _ t ht => ?_⟩)
      · refine h3 z3 _ H3 (Ext.refl _) r3 ?_
        have e0 : ∀ xs : List D, xs.length = us.length → cutL xs l' u' = xs := fun xs el => by
          unfold cutL
          rw [el, hw.1, hw.2, List.drop_zero, Nat.sub_zero, ← el]
          exact List.take_length
        rw [e0 _ k2.length]
        exact w1
      · obtain ⟨x1, x2, x3⟩ := r3.newTup ht (cut_rep k2 l' u')
        exact h3 _ _ _ x1 x2 x3
    · cases q0
      obtain ⟨a, us, rfl, k1, k2⟩ := Rep.lst.mp w1
      refine .inl ⟨a, us, rfl, SqL.of (r3.rf.sub _ _ k1), fun t ht => ?_⟩
      obtain ⟨x1, x2, x3⟩ := r3.newLst ht (cut_rep k2 l' u')
      exact h3 _ _ _ x1 x2 x3
    · split at q0
      · rename_i hs
        cases q0
        exact .inr (.inr ⟨_, Rep.str.mp w1, small_le hs, h3 z3 _ H3 (Ext.refl _) r3 (Rep.str.mpr rfl)⟩)
      · cases q0
    · cases q0
/-! ### a tuple times an int -/
theorem tuple_mul1 (l : Addr) (items : Array Value) (n : Nat) (dd : Option Addr) (sl : Array (Option Value)) (u : Tok) (c1 : (items.isEmpty || (1 : Int) == 1) = true) :
    Meets (Builtin.«tuple.__mul__» ⟨[.ref l, .int 1 u], []⟩) (fun _ R s => s.heap.get? l = some { cls := .type "tuple", dict := dd, data := .seq items n, slots := sl } ∧ R (.ok (.ret (Value.ref l))) s) :=
  .of_wp fun prog w A R s h => by
    obtain ⟨hp, g, d, tk, os⟩ := s
    obtain ⟨hl, h⟩ := h
    have f1 := AutoSeq1.idx_int
    wp_walk using wpAny_loadPart' hl
    repeat (first
      | (refine wpAny_ite_false (decide_eq_false (by decide)) ?_; wp_walk using wpAny_loadPart' hl)
      | (refine wpAny_ite_true (decide_eq_true c1) ?_; wp_walk using wpAny_loadPart' hl))
    all_goals exact ⟨_, rfl, h⟩
theorem tuple_mul0 (l : Addr) (items : Array Value) (n : Nat) (dd : Option Addr) (sl : Array (Option Value)) (u : Tok) (c1 : (items.isEmpty || (0 : Int) == 1) = false) :
    Meets (Builtin.«tuple.__mul__» ⟨[.ref l, .int 0 u], []⟩) (fun _ R s => s.heap.get? l = some { cls := .type "tuple", dict := dd, data := .seq items n, slots := sl } ∧
      R (.ok (.ret (Value.ref s.heap.objs.size))) { s with heap := s.heap.push { cls := Value.type "tuple", data := Data.seq #[] }, toks := s.toks }) :=
  .of_wp fun prog w A R s h => by
    obtain ⟨hp, g, d, tk, os⟩ := s
    obtain ⟨hl, h⟩ := h
    have f1 := AutoSeq1.idx_int
    wp_walk using wpAny_loadPart' hl
    repeat (first
      | (refine wpAny_ite_false (decide_eq_false (by decide)) ?_; wp_walk using wpAny_loadPart' hl)
      | (refine wpAny_ite_false (decide_eq_false (by rw [c1]; exact Bool.false_ne_true)) ?_; wp_walk using wpAny_loadPart' hl)
      | (refine wpAny_ite_true (decide_eq_true (by first | rfl | decide)) ?_; wp_walk using wpAny_loadPart' hl))
    all_goals exact ⟨_, rfl, h⟩
def rRepZ (K : PySem.W.Frag) : R2 := fun x y H Q => ∃ l k xs, x = .ref l ∧ y = .int k ∧ SqT K H l xs ∧ xs ≠ [] ∧ 0 ≤ k ∧ k ≤ 1000 ∧ xs.length ≤ 1000 ∧ (k = 1 → Q (.ref l) H) ∧ (k ≠ 1 → ∀ p, H p = none → Q (.ref p) (upd H p (.tup (List.replicate k.toNat xs).flatten)))
theorem op_repZ : OpR X (binaryOp .Mult) (rRepZ X.K) := by
  intro pins s σ H x y v u Q I rx ry h
  obtain ⟨l, k, xs, rfl, rfl, hT, hne, h0, h1, hz, q1, q2⟩ := h
  by_cases hk : 2 ≤ k
  · exact op_repT pins s σ H _ _ v u Q I rx ry ⟨l, k, xs, rfl, rfl, hT, hne, hk, h1, hz, q2 (by omega)⟩
  · cases rx
    obtain ⟨t, rfl⟩ := ry
    obtain ⟨its, r, ⟨⟨cls, dd, data, sl⟩, ho, hc, n, hd⟩, hs⟩ := I.tuple hT
    simp only at hc hd
    subst hc hd
    have hle : its.length = xs.length := r.length.symm
    have hi : its.toArray.isEmpty = false := by
      cases its with
      | nil => exact absurd (List.eq_nil_of_length_eq_zero hle.symm) hne
      | cons a b => rfl
    have hk' : k = 0 ∨ k = 1 := by omega
    rcases hk' with rfl | rfl
    · refine wpAny_binaryOp_repeat_ref (T := "tuple") (U := "int") (by decide) ⟨_, ho, rfl⟩ (fun s' => typeIs_int s' 0 t) noFill_tuple_mul F.fills_int_mul F.slot_int_rmul repeat_tuple F.slot_int_index.lookup
        (call_meets F.slot_int_rmul (typeIs_int s 0 t) F.entry_int_rmul (F.args_int_rmul_2 _ _) (int_rmul_tuple 0 t l its.toArray n dd sl)
          ⟨ho, rfl, ⟨_, ho, rfl⟩, call_meets F.slot_tuple_mul ⟨_, ho, rfl⟩ F.entry_tuple_mul (F.args_tuple_mul_2 _ _) (tuple_mul0 l its.toArray n dd sl t (by rw [hi]; rfl)) ⟨ho, ?_⟩⟩)
      refine ⟨.ref s.heap.objs.size, _, I.laid (t' := s.toks) (o := .tup []) (fun b ob q => Heap.get?_push_of_some _ q) (Nat.le_refl _) ?_, rfl, q2 (by decide) _ (I.hok.fresh (Nat.le_refl _))⟩
      exact ⟨Nat.zero_le _, [], .nil, IsTup.new _ _⟩
    · refine wpAny_binaryOp_repeat_ref (T := "tuple") (U := "int") (by decide) ⟨_, ho, rfl⟩ (fun s' => typeIs_int s' 1 t) noFill_tuple_mul F.fills_int_mul F.slot_int_rmul repeat_tuple F.slot_int_index.lookup
        (call_meets F.slot_int_rmul (typeIs_int s 1 t) F.entry_int_rmul (F.args_int_rmul_2 _ _) (int_rmul_tuple 1 t l its.toArray n dd sl)
          ⟨ho, rfl, ⟨_, ho, rfl⟩, call_meets F.slot_tuple_mul ⟨_, ho, rfl⟩ F.entry_tuple_mul (F.args_tuple_mul_2 _ _) (tuple_mul1 l its.toArray n dd sl t (by rw [hi]; rfl)) ⟨ho, ?_⟩⟩)
      exact ⟨.ref l, H, I, rfl, q1 rfl⟩
theorem rep_flat {ds : List D} {vs : List V} (h : RepL Γ z ds vs) : ∀ k : Nat, RepL Γ z (List.replicate k ds).flatten (List.replicate k vs).flatten
  | 0 => .nil
  | k + 1 => by
    rw [List.replicate_succ, List.replicate_succ, List.flatten_cons, List.flatten_cons]
    exact h.append (rep_flat h k)
/-- * of ints, of a tuple or a list and an int -/
def mulZ : D → D → Option D
  | .tup xs, .int k => if decide (xs.isEmpty = false ∧ 0 ≤ k ∧ k ≤ 1000 ∧ xs.length ≤ 1000) = true then some (.tup (List.replicate k.toNat xs).flatten) else none
  | .lst xs, .int k => if decide (0 ≤ k ∧ k ≤ 1000 ∧ xs.length ≤ 1000) = true then some (.lst (List.replicate k.toNat xs).flatten) else none
  | d, e => mulD d e
abbrev rMulZ (K : PySem.W.Frag) : R2 := fun x y H Q => rI CMulW (fun i j => .int (i * j)) x y H Q ∨ (rRepZ K x y H Q ∨ rRep x y H Q)
theorem op_mulZ : OpR X (binaryOp .Mult) (rMulZ X.K) := OpR.or op_mulW (OpR.or op_repZ op_rep)
theorem oz_mulZ : OpZ Γ B (rMulZ Γ.K) mulZ := by
  intro z m σ H d e c x y Q rl rd re hc q
  unfold mulZ at hc
  split at hc
  · split at hc
    · rename_i xs k hs
      have hs := of_decide_eq_true hs
      cases hc
      obtain ⟨a, us, rfl, k1, k2⟩ := Rep.tup.mp rd
      refine .inr (.inl ⟨a, k, us, rfl, Rep.int.mp re, rl.sqT k1, fun e0 => (by have h5 := hs.1; rw [k2.nil_iff.mpr e0] at h5; cases h5), hs.2.1, hs.2.2.1, by rw [← k2.length]; exact hs.2.2.2, fun ek => ?_, fun _ t ht => ?_⟩)
      · subst ek
        refine q z _ H (Ext.refl _) rl ?_
        have e1 : (List.replicate (1 : Int).toNat xs).flatten = xs := by simp
        rw [e1]
        exact rd
      · obtain ⟨x1, x2, x3⟩ := rl.newTup ht (rep_flat k2 k.toNat)
        exact q _ _ _ x1 x2 x3
    · cases hc
  · split at hc
    · rename_i xs k hs
      have hs := of_decide_eq_true hs
      cases hc
      obtain ⟨a, us, rfl, k1, k2⟩ := Rep.lst.mp rd
      refine .inr (.inr ⟨a, k, us, rfl, Rep.int.mp re, rl.rf.sub _ _ k1, by omega, by omega, ?_, fun t ht => ?_⟩)
      · rw [← k2.length]
        have h1 : k.toNat ≤ 1000 := by omega
        have h2 : xs.length * k.toNat ≤ 1000 * 1000 := Nat.mul_le_mul hs.2.2 h1
        exact Nat.le_trans h2 (by decide)
      · obtain ⟨x1, x2, x3⟩ := rl.newLst ht (rep_flat k2 k.toNat)
        exact q _ _ _ x1 x2 x3
    · cases hc
  · exact .inl (oz_mul z m σ H d e c x y Q rl rd re hc q)
/-! ### isinstance of a built-in class -/
def tyN : D → String
  | .non => "NoneType"
  | .bl _ => "bool"
  | .int _ => "int"
  | .str _ => "str"
  | .tup _ => "tuple"
  | .lst _ => "list"
  | .dct _ _ => "dict"
  | .cel _ => "list"
  | .obj _ _ => "object"
  | .scr _ => "list"
  | .ins _ _ => "object"
def isiD (T : String) (d : D) : Option D := match d with
  | .obj _ _ => none
  | .scr _ => none
  | .cel _ => none
  | .ins _ _ => none
  | d => (kitB (tyN d) T).map .bl
theorem tyX_tup {K : PySem.W.Frag} {a : Addr} {vs : List V} (h : SqT K H a vs) : TyX K H (.ref a) (.type "tuple") := by
  rcases h with (h | ⟨o, h⟩) | ⟨o, its, n, hk, hc, _⟩
  · exact .base (.tup h)
  · exact .fTuple h
  · exact .kTuple hk hc
theorem cz_isi {T : String} : ∀ (z : Fz) (m : M) (σ : L2.St) (H : Hp) (d c : D) (x : V) (Q : VK), Rl Γ B z m σ H → Rep Γ z d x → isiD T d = some c → (∀ z' v H', Ext z z' → Rl Γ B z' m σ H' → Rep Γ z' c v → Q v H') → rIsi Γ.K [x, .ty T] H Q := by
  intro z m σ H d c x Q rl rd hc q
  have fin : ∀ (N : String) (b : Bool), TyX Γ.K H x (.type N) → kitB N T = some b → c = .bl b → rIsi Γ.K [x, .ty T] H Q := fun N b hx hb hcb => by
    subst hcb
    exact ⟨x, .ty T, .type N, .type T, b, rfl, .ty T, hx, kit_ty hb, q z _ H (Ext.refl _) rl (Rep.bl.mpr rfl)⟩
  cases d with
  | obj _ _ => cases hc
  | ins _ _ => cases hc
  | scr _ => cases hc
  | cel _ => cases hc
  | non =>
    obtain ⟨b, h1, h2⟩ := Option.map_eq_some_iff.mp hc
    rw [Rep.non.mp rd] at fin ⊢
    exact fin _ b (.base .non) h1 h2.symm
  | bl k =>
    obtain ⟨b, h1, h2⟩ := Option.map_eq_some_iff.mp hc
    rw [Rep.bl.mp rd] at fin ⊢
    exact fin _ b (.base (.bl k)) h1 h2.symm
  | int k =>
    obtain ⟨b, h1, h2⟩ := Option.map_eq_some_iff.mp hc
    rw [Rep.int.mp rd] at fin ⊢
    exact fin _ b (.base (.int k)) h1 h2.symm
  | str k =>
    obtain ⟨b, h1, h2⟩ := Option.map_eq_some_iff.mp hc
    rw [Rep.str.mp rd] at fin ⊢
    exact fin _ b (.base (.str k)) h1 h2.symm
  | tup ds =>
    obtain ⟨b, h1, h2⟩ := Option.map_eq_some_iff.mp hc
    obtain ⟨a, us, rfl, k1, k2⟩ := Rep.tup.mp rd
    exact fin _ b (tyX_tup (rl.sqT k1)) h1 h2.symm
  | lst ds =>
    obtain ⟨b, h1, h2⟩ := Option.map_eq_some_iff.mp hc
    obtain ⟨a, us, rfl, k1, k2⟩ := Rep.lst.mp rd
    exact fin _ b (.base (.lst (rl.rf.sub _ _ k1))) h1 h2.symm
  | dct ks ds =>
    obtain ⟨b, h1, h2⟩ := Option.map_eq_some_iff.mp hc
    simp only [Rep] at rd
    obtain ⟨a, rfl, ⟨kvs, k1, k2⟩ | ⟨kvs, k0, k1, k2⟩⟩ := rd
    · exact fin _ b (.base (.dK (rl.rf.sub _ _ k1))) h1 h2.symm
    · exact fin _ b (.base (.dT (rl.rf.sub _ _ k1))) h1 h2.symm
def zisi (T : String) (f : Den) : Den := fun m => (f m).bind fun d m1 => ofO (isiD T d) m1
theorem z_isi {T : String} {x : Str} {p2 : Pos} (hK : X.K = Γ.K) (hg : Gl X "isinstance") (hm : X.mg "isinstance" = none) (hb : bootBuiltins "isinstance" = some (.builtin "isinstance")) (hg2 : Gl X x) (hm2 : X.mg x = none) (hb2 : bootBuiltins x = some (.type T)) (hn2 : x ≠ "__name__") (hd2 : (x == ("__debug__" : Str)) = false)
    (ha : PE X e (tE Γ B W f)) (he : starEach [e, .Name x p2] X.env = (false, eval e X.env) :: starEach [.Name x p2] X.env) (he2 : starEach [.Name x p2] X.env = (false, eval (.Name x p2) X.env) :: starEach [] X.env) (hpl : (backTo pos (starEach [.Name x p2] X.env)).any (·.1) = false) :
    PE X (.Call (.Name "isinstance" p) [e, .Name x p2] [] pos) (tE Γ B W (zisi T f)) := by
  refine PE.imp (pe_callB call_isi hg hm hb (pa_cons ha (pa_cons (pe_bltn (v := .ty T) hg2 hm2 hb2 rfl hn2 hd2) pa_nil he2) he) (by decide) (by decide) he hpl) fun σ H Q ⟨m, z, rl, h⟩ => ?_
  refine bnd rl h fun z1 d m1 v H1 e1 r1 p1 h1 => ?_
  cases q : isiD T d with
  | none => rw [q] at h1; exact h1.elim
  | some c =>
    rw [q] at h1
    rw [hK]
    exact cz_isi z1 m1 σ H1 d c v Q r1 p1 q h1
/-! ### a < b < c -/
def zchain (k k' : D → D → Option D) (f g h : Den) : Den := fun m => (f m).bind fun d m1 => (g m1).bind fun e m2 => (ofO (k d e) m2).bind fun b m3 => match b with
  | .bl true => (h m3).bind fun c m4 => ofO (k' e c) m4
  | .bl false => .ok (.bl false) m3
  | _ => .bad
variable {a b c : Expr} {h : Den}
theorem chain_conv {r r' : R2} {k k' : D → D → Option D} (oz : OpZ Γ B r k) (oz' : OpZ Γ B r' k') {Q : VK} (hz : tE Γ B W (zchain k k' f g h) σ H Q) : tChain r r' (tE Γ B W f) (tE Γ B W g) (tE Γ B W h) σ H Q := by
  obtain ⟨m, z, rl, hh⟩ := hz
  refine bnd rl hh fun z1 d m1 x H1 e1 r1 p1 h1 => bnd r1 h1 fun z2 e m2 y H2 e2 r2 p2 h2 => ?_
  cases q : k d e with
  | none => rw [q] at h2; exact h2.elim
  | some b =>
    rw [q] at h2
    refine oz z2 m2 σ H2 d e b x y _ r2 (Rep.mono e2 d p1) p2 q fun z3 v H3 e3 r3 p3 => ?_
    cases b with
    | bl b =>
      refine ⟨b, Rep.bl.mp p3, ?_⟩
      cases b with
      | false => exact h2 z3 _ H3 e3 r3 (Rep.bl.mpr rfl)
      | true =>
        rw [if_pos rfl]
        refine bnd r3 (Po.mono h2 e3) fun z4 c m4 w H4 e4 r4 p4 h4 => ?_
        cases q' : k' e c with
        | none => rw [q'] at h4; exact h4.elim
        | some t =>
          rw [q'] at h4
          exact oz' z4 m4 σ H4 e c t y w Q r4 (Rep.mono (e3.trans e4) e p2) p4 q' h4
    | _ => exact h2.elim
theorem z_chain {op op' : CmpOp} {r r' : R2} {k k' : D → D → Option D} (ho : OpR X (compareOp op) r) (ho' : OpR X (compareOp op') r') (oz : OpZ Γ B r k) (oz' : OpZ Γ B r' k') (ha : PE X a (tE Γ B W f)) (hb : PE X b (tE Γ B W g)) (hc : PE X c (tE Γ B W h))
    (hm : lastMarks [op, op'] [b, c] = false) : PE X (.Compare a [op, op'] [b, c] pos) (tE Γ B W (zchain k k' f g h)) := PE.imp (pe_chain ho ho' ha hb hc hm) fun _ _ _ hz => chain_conv oz oz' hz
theorem chain_toB {r : R2} {r' : R2} {Q : Bool → Hp → Prop} {k : Den} (hz : tT Γ B W (toB k) σ H Q) : tE Γ B W k σ H fun x H1 => ∃ c, x = .bl c ∧ Q c H1 := toB_conv hz
theorem z_chainT {op op' : CmpOp} {r r' : R2} {k k' : D → D → Option D} (ho : OpR X (compareOp op) r) (ho' : OpR X (compareOp op') r') (oz : OpZ Γ B r k) (oz' : OpZ Γ B r' k') (ha : PE X a (tE Γ B W f)) (hb : PE X b (tE Γ B W g)) (hc : PE X c (tE Γ B W h))
    (hm : lastMarks [op, op'] [b, c] = false) : PT X (.Compare a [op, op'] [b, c] pos) (tT Γ B W (toB (zchain k k' f g h))) := by
  refine PT.imp (pt_chain ho ho' ha hb hc hm) fun σ H Q hz => ?_
  exact chain_conv oz oz' (toB_conv hz)
end
end Z

set_option maxHeartbeats 400000
open PySem PySem.Spec PyProof.Rows L2 RZ
namespace Z
variable {X : Cx} {Γ : Gm} {B : Bs} {W : Str → D → Hp → Prop} {z : Fz} {m : M} {σ : L2.St} {H : Hp}
/-! ### repr -/
def shOk (p : PyData) : Bool := p.showable && (decide (p.depth < 60) && (!p.hasDict && decide (p.shown.length ≤ sizeLine)))
def reprD : List D → Option D
  | [d] => match toP d with
    | some p => if shOk p = true then some (.str p.shown) else none
    | none => none
  | _ => none
def rRepr (K : PySem.W.Frag) : List V → Hp → VK → Prop := fun xs H Q => ∃ x p, xs = [x] ∧ Dp K H x p ∧ shOk p = true ∧ Q (.str p.shown) H
theorem call_repr (hg : X.A.guards = some []) (hu : X.A.units + 64 < cLine) : CallR X (.builtin "repr") (rRepr X.K) := by
  intro pins s σ H xs us Q I rv h
  obtain ⟨x, p, rfl, hd, hs, q⟩ := h
  simp only [shOk, Bool.and_eq_true, decide_eq_true_eq, Bool.not_eq_true'] at hs
  obtain ⟨s1, s2, s3, s4⟩ := hs
  cases rv with
  | cons r1 r2 =>
    cases r2
    rename_i u
    obtain ⟨as, r⟩ := Dp.reads I p x u hd r1
    have fin : ∀ h' t tk, (∀ b o, s.heap.get? b = some o → h'.get? b = some o) → EP X pins σ Q (.str p.shown t) { s with heap := h', toks := tk } := fun h' t tk hk => ⟨.str p.shown, H, I.kept hk, ⟨t, rfl⟩, q⟩
    cases hd with
    | non => cases r1; exact P.repr_of_none (fin _ _ _ fun _ _ e => e)
    | bl b => cases r1; exact P.repr_of_bool (fin _ _ _ fun _ _ e => e)
    | int i =>
      obtain ⟨t, rfl⟩ := r1
      exact P.repr_of_int (by simpa [PyData.showable] using s1) (fin _ _ _ fun _ _ e => e)
    | str y =>
      obtain ⟨t, rfl⟩ := r1
      exact P.repr_of_str (fin _ _ _ fun _ _ e => e) s4
    | lst h1 h2 =>
      cases r1
      exact repr_of_reads' r s1 (PyData.noDict_hsm s3) hg (by omega) (fun _ _ e => e) fin s4
    | tup h1 h2 =>
      cases r1
      exact repr_of_reads' r s1 (PyData.noDict_hsm s3) hg (by omega) (fun _ _ e => e) fin s4
theorem cz_repr : CallZ Γ B (rRepr Γ.K) reprD := by
  intro z m σ H ds c xs Q rl rd hc q
  unfold reprD at hc
  split at hc
  · split at hc
    · rename_i d p hp
      split at hc
      · rename_i hs
        cases hc
        obtain ⟨v, rfl, h⟩ := rd.one
        exact ⟨v, p, rfl, Rep.dp rl.rf.sub _ _ _ h hp, hs, q z _ H (Ext.refl _) rl (Rep.str.mpr rfl)⟩
      · cases hc
    · cases hc
  · cases hc
end Z

set_option Elab.async false
set_option linter.all false
set_option maxRecDepth 100000
set_option maxHeartbeats 2000000
/-! Z10: the law's own call -/
namespace Z
open PySem PySem.Spec PyProof.Rows L2 RZ
section
variable {P : Program} {w : World} {K : PySem.W.Frag} {mg mb : Str → Option Value} {k : Nat} {fa a : Addr} {fd : FuncData} {x : Str} {sp : Sp} {t : Shared} {us : List Value} {ns : List Int} {cs : List (Addr × Addr)}
abbrev Done (t : Shared) (r : Result) (s' : Shared) : Prop := r = .ok (.ret (.bool true)) ∧ OldK t.heap s'.heap ∧ s'.os = t.os ∧ AllBare s'.gens
/-- code objects and their tables, which are empty -/
structure TabsAt (K : PySem.W.Frag) (h : Heap) (cs : List (Addr × Addr)) : Prop where
  emp : ∀ p ∈ cs, h.get? p.2 = some { cls := .none, data := .fields #[] }
  out : ∀ p ∈ cs, K.lookup p.2 = none
  hd : ∀ p ∈ cs, PySem.W.CodeHd h p.1 p.2
def isTab (cs : List (Addr × Addr)) (b : Addr) : Prop := ∃ p ∈ cs, p.2 = b
theorem callG0 {H : Hp} (KX : K.In t.heap) (hns : t.heap.Ns mainGlobals mg) (hb : t.heap.Ns builtinsNs mb) (hbb : ∀ x : Str, x ≠ "__name__" → mb x = bootBuiltins x) (hlim : t.heap.NoLimit) (hg : t.gens = #[])
    (ha : t.heap.get? a = some { cls := .type "list", data := .seq us.toArray }) (hr : Room k callerA) (TA : TabsAt K t.heap cs)
    (hbm : ∃ (bm : Addr) (ob : Obj), mg "__builtins__" = some (.ref bm) ∧ bm ≠ builtinsNs ∧ t.heap.get? bm = some ob ∧ ob.cls = .type "module" ∧ ob.dict = some builtinsNs ∧ ob.data = .plain)
    (F : ∀ base : Heap, K.In base → base.Ns mainGlobals mg → (∀ p ∈ cs, LamX.TabB base mg p.1 p.2) → FnG P w K mg base k fa fd [x] sp) (hbind : ∀ (s : Shared) (u : Value), BindsTo s fd ⟨[u], []⟩ [(x, u)])
    (hH : ∀ p ∈ cs, H p.2 = some (.tbl #[])) (hO : ∀ b, H b = none ∨ isTab cs b ∨ ∃ o xs, H b = some (.frz o (.lst xs))) (hok : HOk P w H t.heap) (hA : ∀ b, H b ≠ none → b = a ∨ isTab cs b) (hK : H a ≠ none → K.lookup a = none) (hsp : sp [.ref a] H (fun v _ => v = .bl true) fun _ _ _ => False) :
    codeAny (model P w) callerA (.call (.ref fa) ⟨[.ref a], []⟩) (Done t) t := by
  have isT : ∀ b, isTab cs b → t.heap.get? b = some { cls := .none, data := .fields #[] } := fun b ⟨p, hp, e⟩ => by rw [← e]; exact TA.emp p hp
  have dn : ∀ (b : Addr) (o : Obj), t.heap.get? b = some o → (∀ vs n, o.data ≠ .seq vs n) → o.data ≠ .fields #[] → H b = none := fun b o e n1 n2 => Classical.byContradiction fun z => by
    rcases hA b z with q | q
    · rw [q, ha] at e
      cases e
      exact n1 _ _ rfl
    · rw [isT b q] at e
      cases e
      exact n2 rfl
  have nsK : ∀ (b : Addr) (m : Str → Option Value), t.heap.Ns b m → (hidT t.heap H).Ns b m := fun b m ⟨o, es, ep, e, d, r⟩ =>
    ⟨o, es, ep, hidT_get e (dn b o e (fun vs n z => by rw [d] at z; cases z) (fun z => by rw [d] at z; cases z)), d, r⟩
  have kin : K.In (hidT t.heap H) := fun b o e => hidT_get (KX b o e) (Classical.byContradiction fun z => by
    rcases hA b z with q | ⟨p, hp, q⟩
    · rw [q] at z e
      rw [hK z] at e
      cases e
    · rw [← q, TA.out p hp] at e
      cases e)
  have md : Mod K mg (hidT t.heap H) := ⟨kin, nsK _ _ hns, ⟨mb, nsK _ _ hb, hbb⟩, hlim.elim fun mc h => ⟨mc, nsK _ _ h.1, h.2⟩⟩
  have tb : ∀ p ∈ cs, LamX.TabB (hidT t.heap H) mg p.1 p.2 := fun p hp => by
    refine ⟨?_, ?_, fun z => ?_⟩
    · obtain ⟨o, u1, u2, u3, u4, u5, u6, u7, u8, e1, r1, r2, r3, rest⟩ := TA.hd p hp
      refine ⟨o, u1, u2, u3, u4, u5, u6, u7, u8, hidT_get e1 (dn _ o e1 (fun vs n z => ?_) fun z => ?_), r1, r2, r3, rest⟩
      · rw [r2] at z
        cases z
      · rw [r2] at z
        cases z
        simp at r3
    · obtain ⟨bm, ob, b1, b2, b3, b4, b5, b6⟩ := hbm
      refine ⟨bm, ob, b1, b2, fun q => ?_, fun q => ?_, hidT_get b3 (dn _ ob b3 (fun vs n z => ?_) fun z => ?_), b4, b5, b6⟩
      · obtain ⟨o, es, ep, e, d, _⟩ := hns
        rw [← q, b3] at e
        cases e
        rw [b6] at d
        cases d
      · rw [q, TA.emp p hp] at b3
        cases b3
        cases b6
      · rw [b6] at z
        cases z
      · rw [b6] at z
        cases z
    · obtain ⟨o, es, ep, e, d, _⟩ := hns
      rw [z, TA.emp p hp] at e
      cases e
      cases d
  have nofr : ∀ b : Addr, b ∉ frs [] := fun b h => nomatch (show b ∈ ([] : List Addr) from h)
  refine codeAny_mono ((F _ kin (nsK _ _ hns) tb).run callerA [] t H ⟨[.ref a], []⟩ [.ref a] [.ref a] _ _ rfl hr ⟨rfl, md, fun b o e => of_hidT e, Nat.le_of_eq (hidT_size _ _), trivial, fun b h => (nofr b h).elim, hok, .of_eq hg⟩ (hbind t (.ref a)) (.cons rfl .nil) hsp) fun r s' h => ?_
  match r, h with
  | .error e, h =>
    obtain ⟨_, _, _, _, _, _, _, _, _, _, _, _, _, z⟩ := h
  | .ok (.ret u), h =>
    obtain ⟨v, H', os, bare, un, hok', rv, q⟩ := h
    have qv : v = .bl true := q
    subst qv
    have ru : u = Value.bool true := rv
    subst ru
    have grow : ∀ b, isTab cs b → ∃ more : Array Value, s'.heap.get? b = some { cls := .none, data := .fields more } := fun b ⟨p, hp, e⟩ => by
      obtain ⟨more, z⟩ := un.tbls p.2 #[] (hH p hp)
      rw [← e]
      exact ⟨_, hok' p.2 _ z⟩
    have stay : ∀ b o, ¬ isTab cs b → t.heap.get? b = some o → s'.heap.get? b = some o := fun b o nt e => by
      rcases hO b with z | z | ⟨ob, xs, z⟩
      · exact un.keep b o e z (nofr b) (List.not_mem_nil)
      · exact absurd z nt
      · have e1 := (hok b _ z).1
        rw [e] at e1
        cases e1
        exact (hok' b _ (un.frzs b _ _ z)).1
    refine ⟨rfl, ⟨fun b o e => ?_, fun b o e => ?_⟩, os, bare⟩
    · by_cases hb : isTab cs b
      · obtain ⟨more, hm⟩ := grow b hb
        rw [isT b hb] at e
        cases e
        obtain ⟨p, hp, e⟩ := hb
        subst e
        exact .inr (.inl ⟨((TA.hd p hp).tab (TA.emp p hp)).isCodeTable, rfl, #[], more, rfl, by rw [Array.empty_append]; exact hm⟩)
      · exact .inl (stay b o hb e)
    · by_cases hb : isTab cs b
      · obtain ⟨more, hm⟩ := grow b hb
        exact ⟨_, hm⟩
      · exact ⟨o, stay b o hb e⟩
open Classical in
theorem callG (KX : K.In t.heap) (hns : t.heap.Ns mainGlobals mg) (hb : t.heap.Ns builtinsNs mb) (hbb : ∀ x : Str, x ≠ "__name__" → mb x = bootBuiltins x) (hlim : t.heap.NoLimit) (hg : t.gens = #[])
    (ha : t.heap.get? a = some { cls := .type "list", data := .seq us.toArray }) (hi : IntsAre us ns) (hl : ns.length ≤ sizeLine) (hr : Room k callerA) (TA : TabsAt K t.heap cs)
    (hbm : ∃ (bm : Addr) (ob : Obj), mg "__builtins__" = some (.ref bm) ∧ bm ≠ builtinsNs ∧ t.heap.get? bm = some ob ∧ ob.cls = .type "module" ∧ ob.dict = some builtinsNs ∧ ob.data = .plain)
    (F : ∀ base : Heap, K.In base → base.Ns mainGlobals mg → (∀ p ∈ cs, LamX.TabB base mg p.1 p.2) → FnG P w K mg base k fa fd [x] sp) (hbind : ∀ (s : Shared) (u : Value), BindsTo s fd ⟨[u], []⟩ [(x, u)])
    (hsp : ∀ H : Hp, (∀ p ∈ cs, H p.2 = some (.tbl #[])) → SqL K H a (ns.map V.int) → sp [.ref a] H (fun v _ => v = .bl true) fun _ _ _ => False) :
    codeAny (model P w) callerA (.call (.ref fa) ⟨[.ref a], []⟩) (Done t) t := by
  have rv := vals_ints hi
  have nTa : ¬ isTab cs a := fun ⟨p, hp, e⟩ => by
    have q := TA.emp p hp
    rw [e, ha] at q
    have z : Data.seq us.toArray _ = Data.fields #[] := congrArg Obj.data (Option.some.inj q)
    cases z
  have tabOk : ∀ (b : Addr), isTab cs b → t.heap.get? b = some { cls := .none, data := .fields #[] } := fun b ⟨p, hp, e⟩ => by rw [← e]; exact TA.emp p hp
  cases hk : K.lookup a with
  | some o =>
    have e := KX a o hk
    rw [ha] at e
    cases e
    have h1 : ∀ b, isTab cs b → (fun b => if isTab cs b then some (HO.tbl #[]) else none : Hp) b = some (.tbl #[]) := fun b h => if_pos h
    have h2 : ∀ b, ¬ isTab cs b → (fun b => if isTab cs b then some (HO.tbl #[]) else none : Hp) b = none := fun b h => if_neg h
    have hH : ∀ p ∈ cs, (fun b => if isTab cs b then some (HO.tbl #[]) else none : Hp) p.2 = some (.tbl #[]) := fun p hp => h1 p.2 ⟨p, hp, rfl⟩
    refine callG0 (H := fun b => if isTab cs b then some (HO.tbl #[]) else none) KX hns hb hbb hlim hg ha hr TA hbm F hbind hH (fun b => (em (isTab cs b)).elim (fun q => .inr (.inl q)) fun q => .inl (h2 b q)) (fun b u z => ?_) (fun b z => ?_) (fun z => absurd (h2 a nTa) z)
      (hsp _ hH (.inr ⟨_, us.toArray, _, hk, rfl, rfl, rfl, by rw [List.size_toArray, hi.length]; exact hl, by simpa using rv⟩))
    · by_cases q : isTab cs b
      · rw [h1 b q] at z
        cases z
        exact tabOk b q
      · rw [h2 b q] at z
        cases z
    · by_cases q : isTab cs b
      · exact .inr q
      · exact absurd (h2 b q) z
  | none =>
    have h0 : (fun b => if b = a then some (HO.frz { cls := .type "list", data := .seq us.toArray } (.lst (ns.map V.int))) else if isTab cs b then some (HO.tbl #[]) else none : Hp) a = some (.frz { cls := .type "list", data := .seq us.toArray } (.lst (ns.map V.int))) := if_pos rfl
    have h1 : ∀ b, isTab cs b → (fun b => if b = a then some (HO.frz { cls := .type "list", data := .seq us.toArray } (.lst (ns.map V.int))) else if isTab cs b then some (HO.tbl #[]) else none : Hp) b = some (.tbl #[]) := fun b h => (if_neg (fun (e : b = a) => nTa (e ▸ h))).trans (if_pos h)
    have h2 : ∀ b, b ≠ a → ¬ isTab cs b → (fun b => if b = a then some (HO.frz { cls := .type "list", data := .seq us.toArray } (.lst (ns.map V.int))) else if isTab cs b then some (HO.tbl #[]) else none : Hp) b = none := fun b n h => (if_neg n).trans (if_neg h)
    refine callG0 (H := fun b => if b = a then some (HO.frz { cls := .type "list", data := .seq us.toArray } (.lst (ns.map V.int))) else if isTab cs b then some (HO.tbl #[]) else none) KX hns hb hbb hlim hg ha hr TA hbm F hbind (fun p hp => h1 p.2 ⟨p, hp, rfl⟩) (fun b => ?_) (fun b u z => ?_) (fun b z => ?_) (fun _ => hk)
      (hsp _ (fun p hp => h1 p.2 ⟨p, hp, rfl⟩) (.inl (.inr ⟨_, h0⟩)))
    · by_cases e : b = a
      · rw [e]; exact .inr (.inr ⟨_, _, h0⟩)
      · by_cases q : isTab cs b
        · exact .inr (.inl q)
        · exact .inl (h2 b e q)
    · by_cases e : b = a
      · rw [e, h0] at z
        cases z
        rw [e]
        exact ⟨ha, by rw [List.length_map]; exact hl, us, _, rv, ha⟩
      · by_cases q : isTab cs b
        · rw [h1 b q] at z
          cases z
          exact tabOk b q
        · rw [h2 b e q] at z
          cases z
    · by_cases e : b = a
      · exact .inl e
      · by_cases q : isTab cs b
        · exact .inr q
        · exact absurd (h2 b e q) z
end
/-- a law as a function of data: at every script of at most n numbers it answers True -/
def Right (φ : Fn) (n : Nat) : Prop := ∀ ns : List Int, ns.length ≤ n → ∃ S, φ [.scr ns] [] = .ok (.bl true) S
/-- the tables left out -/
def noTab (H : Hp) : Hp := fun b => match H b with
  | some (.tbl _) => none
  | o => o
theorem noTab_sub {H : Hp} {b : Addr} {o : HO} (h : noTab H b = some o) : H b = some o := by
  unfold noTab at h
  split at h
  · cases h
  · exact h
theorem noTab_eq {H : Hp} {b : Addr} {o : HO} (h : H b = some o) (n : ∀ ps, o ≠ .tbl ps) : noTab H b = some o := by
  unfold noTab
  split
  · rename_i ps e
    rw [h] at e
    exact absurd (Option.some.inj e) (n ps)
  · exact h
theorem noTab_tbl {H : Hp} {b : Addr} {ps : Array Value} (h : H b = some (.tbl ps)) : noTab H b = none := by
  unfold noTab
  rw [h]
theorem spZ_of {Γ : Gm} {φ : Fn} {n : Nat} (h : Right φ n) {H : Hp} {a : Addr} {ns : List Int} (hn : ns.length ≤ n) (hT : ∀ p ∈ Γ.T, H p.1 = some (.tbl #[])) (hS : SqL Γ.K H a (ns.map V.int)) : spZ Γ 1 φ [.ref a] H (fun v _ => v = .bl true) fun _ _ _ => False := by
  obtain ⟨S, e⟩ := h ns hn
  have hS' : SqL Γ.K (noTab H) a (ns.map V.int) := by
    rcases hS with (h | ⟨o, h⟩) | h
    · exact .inl (.inl (noTab_eq h fun ps => nofun))
    · exact .inl (.inr ⟨o, noTab_eq h fun ps => nofun⟩)
    · exact .inr h
  refine ⟨rfl, ⟨noTab H, []⟩, [.scr ns], [], ⟨fun a o e => noTab_sub e, rfl, fun n xs b h => ?_, fun b hb => (nomatch (show b ∈ ([] : List Addr) from hb)), List.Pairwise.nil, fun p hp => LamX.TabS.nil (hT p hp), fun p hp => noTab_tbl (hT p hp)⟩, ?_, ?_⟩
  · cases h
  · simp only [RepL]
    exact ⟨_, _, rfl, Rep.scr.mpr ⟨a, rfl, hS'⟩, rfl⟩
  · rw [e]
    exact fun z' v H' _ _ r => Rep.bl.mp r
theorem walkG {l : PySem.W.OpenLaw} {n k : Nat} {q : Program} {loose : List Str} {XP : (Str → Option Value) → Heap → Prop} {YP : World → Heap → Prop} {d : DefRec} {x : Str} {φ : Fn}
    (hn : l.most = some n) (hn2 : n ≤ sizeLine) (hdf : d.params.defaults = []) (hr : Room k callerA) (hφ : Right φ n)
    (F : ∀ (w : World) (mg : Str → Option Value) (fa : Addr) (h : Heap), YP w h → h.Ns mainGlobals mg → mg d.name = some (.ref fa) →
      ∃ (Γ : Gm) (fd : FuncData) (cs : List (Addr × Addr)), (∀ p ∈ Γ.T, isTab cs p.1) ∧ TabsAt Γ.K h cs ∧ Γ.K.In h ∧ (∀ (s : Shared) (u : Value), BindsTo s fd ⟨[u], []⟩ [(x, u)]) ∧
        ∀ base : Heap, Γ.K.In base → base.Ns mainGlobals mg → (∀ p ∈ cs, LamX.TabB base mg p.1 p.2) → FnG l.prog w Γ.K mg base k fa fd [x] (spZ Γ 1 φ)) :
    PySem.W.WalkO q loose XP YP l.row.toRowW d [] (fun f vs => PySem.call f vs) := by
  refine Att.attach_call hn hdf fun w s0 t mg mb fa o pm cd doc a vs ns G Y ho hd hcd hmg hobj hints hlen hg => ?_
  obtain ⟨Γ, fd, cs, hT, TA, KX, hb, hF⟩ := F w mg fa _ Y G.T.g hmg
  exact callG KX G.T.g G.T.b G.T.builtins G.T.nolimit hg hobj hints (Nat.le_trans hlen hn2) hr TA G.T.bmain hF hb fun H hH hS => spZ_of hφ hlen (fun p hp => by
    obtain ⟨q, hq, e⟩ := hT p hp
    rw [← e]
    exact hH q hq) hS
end Z

set_option Elab.async false
set_option linter.all false
set_option maxRecDepth 100000
set_option maxHeartbeats 2000000
/-! Z11: the rules as the printer uses them; what the head tells -/
namespace Z
open PySem PySem.Spec PyProof.Rows L2 RZ

/-! ### the module's data -/
mutual
def repB (K : PySem.W.Frag) : D → Value → Bool
  | .non, .none => true
  | .bl b, .bool c => b == c
  | .int i, .int j _ => decide (i = j)
  | .str x, .str y _ => decide (x = y)
  | .tup ds, .ref a => (match K.lookup a with
    | some ⟨.type c, _, .seq its _, _⟩ => decide (c = "tuple") && (decide (its.size ≤ sizeLine) && repBL K ds its.toList)
    | _ => false)
  | _, _ => false
def repBL (K : PySem.W.Frag) : List D → List Value → Bool
  | [], [] => true
  | d :: ds, u :: us => repB K d u && repBL K ds us
  | _, _ => false
end
mutual
theorem repB_ok {Γ : Gm} : ∀ (d : D) (u : Value), repB Γ.K d u = true → ∃ v, RelV v u ∧ ∀ z, Rep Γ z d v
  | .non, .none, _ => ⟨.non, rfl, fun z => Rep.non.mpr rfl⟩
  | .bl b, .bool c, h => ⟨.bl b, by simp only [repB, beq_iff_eq] at h; subst h; rfl, fun z => Rep.bl.mpr rfl⟩
  | .int i, .int j t, h => ⟨.int i, by simp only [repB, decide_eq_true_eq] at h; subst h; exact ⟨t, rfl⟩, fun z => Rep.int.mpr rfl⟩
  | .str i, .str j t, h => ⟨.str i, by simp only [repB, decide_eq_true_eq] at h; subst h; exact ⟨t, rfl⟩, fun z => Rep.str.mpr rfl⟩
  | .tup ds, .ref a, h => by
    simp only [repB] at h
    split at h
    · rename_i c dd its n sl hk
      simp only [Bool.and_eq_true, decide_eq_true_eq] at h
      obtain ⟨h1, h2, h3⟩ := h
      obtain ⟨vs, r1, r2⟩ := repBL_ok ds its.toList h3
      exact ⟨.ref a, rfl, fun z => Rep.tup.mpr ⟨a, vs, rfl, .inr ⟨_, its, n, hk, congrArg Value.type h1, rfl, h2, r1⟩, r2 z⟩⟩
    · cases h
theorem repBL_ok {Γ : Gm} : ∀ (ds : List D) (us : List Value), repBL Γ.K ds us = true → ∃ vs, Vals vs us ∧ ∀ z, RepL Γ z ds vs
  | [], [], _ => ⟨[], .nil, fun z => RepL.nil⟩
  | d :: ds, u :: us, h => by
    simp only [repBL, Bool.and_eq_true] at h
    obtain ⟨v, r1, r2⟩ := repB_ok d u h.1
    obtain ⟨vs, r3, r4⟩ := repBL_ok ds us h.2
    exact ⟨v :: vs, .cons r1 r3, fun z => .cons (r2 z) (r4 z)⟩
end
/-- the module's name x stands for d -/
def conZ (K : PySem.W.Frag) (q : Str × D) : Bool := match PySem.W.nsIn K mainGlobals q.1 with
  | some (some u) => repB K q.2 u
  | _ => false
def Gc (Γ : Gm) (mg : Str → Option Value) (x : Str) (d : D) : Prop := ∃ u v, mg x = some u ∧ RelV v u ∧ ∀ z, Rep Γ z d v
theorem conZ_ok {Γ : Gm} {h : Heap} {mg : Str → Option Value} (X : Γ.K.In h) (G : h.Ns mainGlobals mg) {x : Str} {d : D} (c : conZ Γ.K (x, d) = true) : Gc Γ mg x d := by
  unfold conZ at c
  split at c
  · rename_i u e
    obtain ⟨v, r1, r2⟩ := repB_ok d u c
    exact ⟨u, v, PySem.W.mg_of X G e, r1, r2⟩
  · cases c
/-! ### the head's hook: facts, defs, data -/
abbrev AlZ : Type := He.AlD × Bool
def obsZ (n : Nat) (fa : List He.Fa) (fn : List He.DefD) (cs : List (Str × D)) (g : Addr → Option Obj) : AlZ := (He.obsD fa fn (He.frG g (He.asD g n)), cs.all (conZ (He.frG g (He.asD g n))))
structure SaysZ (fa : List He.Fa) (fn : List He.DefD) (cs : List (Str × D)) (K : PySem.W.Frag) : Prop where
  d : He.SaysD fa fn K
  c : cs.all (conZ K) = true
def hookZ (n : Nat) (fa : List He.Fa) (fn : List He.DefD) (cs : List (Str × D)) : PySem.W.Hook where
  α := AlZ
  obs := fun s => obsZ n fa fn cs s.heap.get?
  val := fun _ => (He.valD fn, true)
  says := fun _ h => ∃ K : PySem.W.Frag, K.In h ∧ SaysZ fa fn cs K
  of := fun _ _ e => ⟨_, He.frG_in, ⟨congrArg (fun z : AlZ => z.1) e, congrArg (fun z : AlZ => z.2) e⟩⟩
  keeps := fun _ _ _ ⟨K, hK, c⟩ k => ⟨K, PySem.W.Frag.In.keeps hK k, c⟩
theorem obsZ_eq {n : Nat} {fa : List He.Fa} {fn : List He.DefD} {cs : List (Str × D)} {g : Addr → Option Obj} {s : Shared} (h : ∀ a, g a = s.heap.get? a) : obsZ n fa fn cs g = (hookZ n fa fn cs).obs s := by
  have e : g = s.heap.get? := funext h
  rw [e] <;> rfl
theorem SaysZ.con {fa : List He.Fa} {fn : List He.DefD} {cs : List (Str × D)} {Γ : Gm} {h : Heap} {mg : Str → Option Value} (c : SaysZ fa fn cs Γ.K) (X : Γ.K.In h) (G : h.Ns mainGlobals mg) {x : Str} {d : D} (i : Nat) (hi : cs[i]? = some (x, d)) : Gc Γ mg x d :=
  conZ_ok X G (List.all_eq_true.mp c.c (x, d) (List.mem_of_getElem? hi))
/-- names of the builtins that no module binds -/
abbrev bns : List Str := ["len", "isinstance", "int", "bool", "tuple", "str", "list", "range", "abs", "max", "min", "all", "any", "zip", "repr", "sum", "sorted", "set", "enumerate", "dict"]
def Bn (mg : Str → Option Value) : Prop := ∀ x ∈ bns, mg x = none

/-! ### a def that is called -/
structure Cal (Γ : Gm) (P : Program) (w : World) (mg : Str → Option Value) (base : Heap) (x : Str) (k n : Nat) (dfl : List D) (φ : Fn) : Prop where
  ex : ∃ f fd ps, FnG P w Γ.K mg base k f fd ps (spZ Γ n φ) ∧ mg x = some (.ref f) ∧ PySem.W.keepIn Γ.K (.ref f) = true ∧ ∀ j, j ≤ dfl.length → ∃ ds dvs, Binds Γ.K fd ps ds ∧ Vals dvs ds ∧ ∀ z, RepL Γ z (dfl.drop j) dvs

section
variable {Γ : Gm} {B : Bs} {W : WX} {X : Cx} {σ : L2.St} {H : Hp} {z : Fz} {m : M} {k : Nat} {φ : Fn} {x : Str} {p pos : Pos} {e a b : Expr} {es : List Expr} {fs : DenL} {f g h : Den} {dfl : List D}
/-- arguments: as many as written -/
structure PAL (X : Cx) (Γ : Gm) (B : Bs) (W : WX) (es : List Expr) (fs : DenL) : Prop where
  pa : PA X es (tA Γ B W fs)
  len : ∀ m ds m1, fs m = .ok ds m1 → ds.length = es.length
theorem an : PAL X Γ B W [] znil := ⟨z_anil, fun m ds m1 e => by cases e; rfl⟩
theorem ac (ha : PE X e (tE Γ B W f)) (hr : PAL X Γ B W es fs) (hs : starEach (e :: es) X.env = (false, eval e X.env) :: starEach es X.env := by rfl) : PAL X Γ B W (e :: es) (zcons f fs) := by
  refine ⟨z_acons ha hr.pa hs, fun m ds m1 q => ?_⟩
  unfold zcons at q
  cases q1 : f m with
  | bad => rw [q1] at q; cases q
  | exc c d m2 => rw [q1] at q; cases q
  | ok d m2 =>
    rw [q1] at q
    have q : (fs m2).bind (fun ds m2 => R.ok (d :: ds) m2) = .ok ds m1 := q
    cases q2 : fs m2 with
    | bad => rw [q2] at q; cases q
    | exc c d m2 => rw [q2] at q; cases q
    | ok ds2 m3 =>
      rw [q2] at q
      cases q
      rw [List.length_cons, List.length_cons, hr.len _ _ _ q2]
theorem qcall {k' n : Nat} {dd : List D} (C : Cal Γ X.prog X.w X.mg X.base x k n dfl φ) (j : Nat) (hr : Room k' X.A) (hk : k ≤ k') (hgd : X.A.guards = some []) (tk : Takes X W) (ha : PAL X Γ B W (e :: es) fs) (hK : X.K = Γ.K := by rfl) (hg : Gl X x := by rfl) (hj : j ≤ dfl.length := by decide) (hdd : dfl.drop j = dd := by rfl) (hn : (e :: es).length + (dfl.drop j).length = n := by rfl)
    (hdb : (x == ("__debug__" : Str)) = false := by decide) (he : starEach (e :: es) X.env = (false, eval e X.env) :: starEach es X.env := by rfl) (hpl : (backTo pos (starEach es X.env)).any (·.1) = false := by rfl) :
    PE X (.Call (.Name x p) (e :: es) [] pos) (tE Γ B W (zcall φ dd fs)) := by
  subst hdd
  obtain ⟨fa, fd, ps, F, hm, hk2, hb⟩ := C.ex
  obtain ⟨ds, dvs, b1, b2, b3⟩ := hb j hj
  rw [← hK] at F hk2 b1
  exact z_call F hgd (hr.mono hk) hg hm hk2 b1 b2 b3 tk ha.pa hn hdb he hpl ha.len
theorem qcall0 {k' n : Nat} {dd : List D} (C : Cal Γ X.prog X.w X.mg X.base x k n dfl φ) (j : Nat) (hr : Room k' X.A) (hk : k ≤ k') (hgd : X.A.guards = some []) (tk : Takes X W) (hK : X.K = Γ.K := by rfl) (hg : Gl X x := by rfl) (hj : j ≤ dfl.length := by decide) (hdd : dfl.drop j = dd := by rfl) (hn : (dfl.drop j).length = n := by rfl)
    (hdb : (x == ("__debug__" : Str)) = false := by decide) : PE X (.Call (.Name x p) [] [] pos) (tE Γ B W (zcall φ dd znil)) := by
  subst hdd
  obtain ⟨fa, fd, ps, F, hm, hk2, hb⟩ := C.ex
  obtain ⟨ds, dvs, b1, b2, b3⟩ := hb j hj
  rw [← hK] at F hk2 b1
  exact z_call0 F hgd (hr.mono hk) hg hm hk2 b1 b2 b3 tk hn hdb
/-! ### rules with their side conditions -/
def visB (sc : Scope) (x : Str) : Bool := match sc.names.lookup x with
  | some .local => true
  | some .cell => true
  | some .free => true
  | _ => false
theorem visB_ok {sc : Scope} (h : visB sc x = true) : Vis sc x := by
  unfold visB at h
  unfold Vis
  split at h
  · exact .inl (by assumption)
  · exact .inr (.inl (by assumption))
  · exact .inr (.inr (by assumption))
  · cases h
def locB (sc : Scope) (x : Str) : Bool := match sc.names.lookup x with
  | some .local => true
  | some .cell => true
  | _ => false
theorem locB_ok {sc : Scope} (h : locB sc x = true) : L2.Loc sc x := by
  unfold locB at h
  unfold L2.Loc
  split at h
  · exact .inl (by assumption)
  · exact .inr (by assumption)
  · cases h
theorem qv (i : Nat) (hN : X.N[i]? = some x := by rfl) (hv : visB X.env.scope x = true := by rfl) (hd : (x == ("__debug__" : Str)) = false := by decide) (hcd : (x == ("__classdict__" : Str)) = false := by decide) : PE X (.Name x pos) (tE Γ B W (zvar i)) := z_var hN (visB_ok hv) hd hcd
theorem qg {d : D} (C : Gc Γ X.mg x d) (hg : Gl X x := by rfl) (hdb : (x == ("__debug__" : Str)) = false := by decide) : PE X (.Name x pos) (tE Γ B W (zk d)) := by
  obtain ⟨u, v, h1, h2, h3⟩ := C
  exact z_glob hg h1 h2 h3 hdb
section
variable (ha : PE X a (tE Γ B W f)) (hb : PE X b (tE Γ B W g))
include ha hb
theorem qadd (hK : X.K = Γ.K := by rfl) : PE X (.BinOp a .Add b pos) (tE Γ B W (zop addD f g)) := z_op op_addZ (hK ▸ oz_add) ha hb
theorem qsub : PE X (.BinOp a .Sub b pos) (tE Γ B W (zop subD f g)) := z_op op_sub oz_sub ha hb
theorem qmul (hK : X.K = Γ.K := by rfl) : PE X (.BinOp a .Mult b pos) (tE Γ B W (zop mulZ f g)) := z_op op_mulZ (hK ▸ oz_mulZ) ha hb
theorem qfdiv : PE X (.BinOp a .FloorDiv b pos) (tE Γ B W (zop fdivD f g)) := z_op op_fdivZ oz_fdiv ha hb
theorem qmod : PE X (.BinOp a .Mod b pos) (tE Γ B W (zop modD f g)) := z_op op_modN oz_mod ha hb
theorem qpow : PE X (.BinOp a .Pow b pos) (tE Γ B W (zop powD f g)) := z_op op_powZ oz_pow ha hb
end
/-- one comparison -/
structure CmZ (X : Cx) (Γ : Gm) (op : CmpOp) (k : D → D → Option D) : Prop where
  ex : ∃ r, OpR X (compareOp op) r ∧ ∀ B, OpZ Γ B r k
theorem clt : CmZ X Γ .Lt ltD := ⟨_, op_lt, fun _ => oz_cmpI⟩
theorem cle : CmZ X Γ .LtE leD := ⟨_, op_le, fun _ => oz_cmpI⟩
theorem cgt : CmZ X Γ .Gt gtD := ⟨_, op_gt, fun _ => oz_cmpI⟩
theorem cge : CmZ X Γ .GtE geD := ⟨_, op_ge, fun _ => oz_cmpI⟩
theorem cis : CmZ X Γ .Is isND := ⟨_, op_isN, fun _ => oz_isN⟩
theorem cisnt : CmZ X Γ .IsNot isNotND := ⟨_, op_notN, fun _ => oz_notN⟩
theorem ceq (hr : Room k X.A) (hK : X.K = Γ.K := by rfl) : CmZ X Γ .Eq eqD := ⟨_, op_eqZ (by have := hr.un; omega), fun _ => hK ▸ oz_eq⟩
theorem cne (hr : Room k X.A) (hK : X.K = Γ.K := by rfl) : CmZ X Γ .NotEq neD := ⟨_, op_neZ (by have := hr.un; omega), fun _ => hK ▸ oz_ne⟩
theorem qcmp {op : CmpOp} {k : D → D → Option D} (C : CmZ X Γ op k) (ha : PE X a (tE Γ B W f)) (hb : PE X b (tE Γ B W g)) (hn : behindInMarks op b = false := by rfl) : PE X (.Compare a [op] [b] pos) (tE Γ B W (zop k f g)) := by
  obtain ⟨r, h1, h2⟩ := C.ex
  exact z_cmp h1 (h2 B) ha hb hn
theorem tcmp {op : CmpOp} {k : D → D → Option D} (C : CmZ X Γ op k) (ha : PE X a (tE Γ B W f)) (hb : PE X b (tE Γ B W g)) (hn : behindInMarks op b = false := by rfl) : PT X (.Compare a [op] [b] pos) (tT Γ B W (toB (zop k f g))) := by
  obtain ⟨r, h1, h2⟩ := C.ex
  exact z_cmpT h1 (h2 B) ha hb hn
theorem qchain {op op' : CmpOp} {k k' : D → D → Option D} {c : Expr} (C : CmZ X Γ op k) (C' : CmZ X Γ op' k') (ha : PE X a (tE Γ B W f)) (hb : PE X b (tE Γ B W g)) (hc : PE X c (tE Γ B W h)) (hm : lastMarks [op, op'] [b, c] = false := by with_unfolding_all rfl) : PE X (.Compare a [op, op'] [b, c] pos) (tE Γ B W (zchain k k' f g h)) := by
  obtain ⟨r, h1, h2⟩ := C.ex
  obtain ⟨r', h1', h2'⟩ := C'.ex
  exact z_chain h1 h1' (h2 B) (h2' B) ha hb hc hm
theorem tchain {op op' : CmpOp} {k k' : D → D → Option D} {c : Expr} (C : CmZ X Γ op k) (C' : CmZ X Γ op' k') (ha : PE X a (tE Γ B W f)) (hb : PE X b (tE Γ B W g)) (hc : PE X c (tE Γ B W h)) (hm : lastMarks [op, op'] [b, c] = false := by with_unfolding_all rfl) : PT X (.Compare a [op, op'] [b, c] pos) (tT Γ B W (toB (zchain k k' f g h))) := by
  obtain ⟨r, h1, h2⟩ := C.ex
  obtain ⟨r', h1', h2'⟩ := C'.ex
  exact z_chainT h1 h1' (h2 B) (h2' B) ha hb hc hm
theorem tval (ha : PE X a (tE Γ B W f)) (he : ∀ whole, isTrue a X.env whole = (do let v ← whole; standAt a.pos; holding [v] (truthy v)) := by intro _; rfl) : PT X a (tT Γ B W (toB f)) := z_test ha he
theorem qand1 (ha : PE X a (tE Γ B W f)) : PE X (.BoolOp .And [a] pos) (tE Γ B W f) := pe_one ha
theorem qor1 (ha : PE X a (tE Γ B W f)) : PE X (.BoolOp .Or [a] pos) (tE Γ B W f) := pe_one ha
/-! calls of builtins -/
theorem qidx (ha : PE X a (tE Γ B W f)) (hb : PE X b (tE Γ B W g)) (hK : X.K = Γ.K := by rfl) (hs : PlainIx b := by exact fun _ _ => rfl) : PE X (.Subscript a b pos) (tE Γ B W (zidx f g)) := z_idxS hK ha hb hs
theorem qslice {lo hi : Option Expr} {fl fh : DenO} {p2 : Pos} (ha : PE X e (tE Γ B W f)) (hl : PO X lo (tO Γ B W fl)) (hh : PO X hi (tO Γ B W fh)) (hK : X.K = Γ.K := by rfl) : PE X (.Subscript e (.Slice lo hi none p2) pos) (tE Γ B W (zslice f fl fh)) := z_slice hK ha hl hh
/-- a builtin as a function of data -/
structure BlZ (X : Cx) (Γ : Gm) (x : Str) (g : List D → Option D) : Prop where
  ex : (∃ id r, CallR X (.builtin id) r ∧ bootBuiltins x = some (.builtin id) ∧ ∀ B, CallZ Γ B r g) ∨ (∃ T r, CallR X (.type T) r ∧ bootBuiltins x = some (.type T) ∧ ∀ B, CallZ Γ B r g)
theorem qblt {g : List D → Option D} (C : BlZ X Γ x g) (M : Bn X.mg) (ha : PAL X Γ B W (e :: es) fs) (hx : x ∈ bns := by decide) (hg : Gl X x := by rfl) (hn : x ≠ "__name__" := by decide) (hdb : (x == ("__debug__" : Str)) = false := by decide)
    (he : starEach (e :: es) X.env = (false, eval e X.env) :: starEach es X.env := by rfl) (hpl : (backTo pos (starEach es X.env)).any (·.1) = false := by rfl) : PE X (.Call (.Name x p) (e :: es) [] pos) (tE Γ B W (zcb g fs)) := by
  rcases C.ex with ⟨id, r, h1, h2, h3⟩ | ⟨id, r, h1, h2, h3⟩
  · exact z_callB h1 (h3 B) hg (M x hx) h2 ha.pa hn hdb he hpl
  · exact z_callTy h1 (h3 B) hg (M x hx) h2 ha.pa hn hdb he hpl
theorem blen (hK : X.K = Γ.K := by rfl) : BlZ X Γ "len" lenD := ⟨.inl ⟨_, _, cr_lenZ, by rfl, fun _ => hK ▸ cz_len⟩⟩
theorem babs : BlZ X Γ "abs" absD := ⟨.inl ⟨_, _, call_abs, by rfl, fun _ => cz_abs⟩⟩
theorem bint : BlZ X Γ "int" intD := ⟨.inr ⟨_, _, call_int1, by rfl, fun _ => cz_int⟩⟩
theorem bmax (hc : X.calm = true := by rfl) : BlZ X Γ "max" maxD := ⟨.inl ⟨_, _, call_max2 hc, by rfl, fun _ => cz_max⟩⟩
theorem bmin (hc : X.calm = true := by rfl) : BlZ X Γ "min" minD := ⟨.inl ⟨_, _, call_min2 hc, by rfl, fun _ => cz_min⟩⟩
theorem btuple (hK : X.K = Γ.K := by rfl) : BlZ X Γ "tuple" tupleD := ⟨.inr ⟨_, _, call_tuple_of, by rfl, fun _ => hK ▸ cz_tuple⟩⟩
theorem ball (hK : X.K = Γ.K := by rfl) (hc : X.calm = true := by rfl) : BlZ X Γ "all" allD := ⟨.inl ⟨_, _, cr_all hc, by rfl, fun _ => hK ▸ cz_all⟩⟩
theorem bany (hK : X.K = Γ.K := by rfl) (hc : X.calm = true := by rfl) : BlZ X Γ "any" anyD := ⟨.inl ⟨_, _, cr_any hc, by rfl, fun _ => hK ▸ cz_any⟩⟩
theorem brepr (hr : Room k X.A) (hgd : X.A.guards = some []) (hK : X.K = Γ.K := by rfl) : BlZ X Γ "repr" reprD := ⟨.inl ⟨_, _, call_repr hgd (by have := hr.un; omega), by rfl, fun _ => hK ▸ cz_repr⟩⟩
theorem qisi {T : String} {y : Str} {p2 : Pos} (M : Bn X.mg) (ha : PE X e (tE Γ B W f)) (hb2 : bootBuiltins y = some (.type T) := by rfl) (hy : y ∈ bns := by decide) (hK : X.K = Γ.K := by rfl) (hg : Gl X "isinstance" := by rfl) (hg2 : Gl X y := by rfl) (hn2 : y ≠ "__name__" := by decide) (hd2 : (y == ("__debug__" : Str)) = false := by decide)
    (he : starEach [e, .Name y p2] X.env = (false, eval e X.env) :: starEach [.Name y p2] X.env := by rfl) (he2 : starEach [.Name y p2] X.env = (false, eval (.Name y p2) X.env) :: starEach [] X.env := by rfl) (hpl : (backTo pos (starEach [.Name y p2] X.env)).any (·.1) = false := by rfl) :
    PE X (.Call (.Name "isinstance" p) [e, .Name y p2] [] pos) (tE Γ B W (zisi T f)) := z_isi hK hg (M _ (by decide)) (by rfl) hg2 (M _ hy) hb2 hn2 hd2 ha he he2 hpl
theorem flist (M : Bn X.mg) (ha : PAL X Γ B W [e] fs) (hK : X.K = Γ.K := by rfl) (hg : Gl X "list" := by rfl) (he : starEach [e] X.env = (false, eval e X.env) :: starEach [] X.env := by rfl) (hpl : (backTo pos (starEach [] X.env)).any (·.1) = false := by rfl) : PE X (.Call (.Name "list" p) [e] [] pos) (tF Γ B W (zlistF fs)) :=
  z_listF hK hg (M _ (by decide)) (by rfl) ha.pa he hpl
theorem flistRg {p2 pos2 : Pos} (M : Bn X.mg) (ha : PE X e (tE Γ B W f)) (hc : X.calm = true := by rfl) (hg : Gl X "list" := by rfl) (hg2 : Gl X "range" := by rfl) (na : starEach [e] X.env = (false, eval e X.env) :: starEach [] X.env := by rfl)
    (na2 : starEach [.Call (.Name "range" p2) [e] [] pos2] X.env = (false, eval (.Call (.Name "range" p2) [e] [] pos2) X.env) :: starEach [] X.env := by rfl) : PE X (.Call (.Name "list" p) [.Call (.Name "range" p2) [e] [] pos2] [] pos) (tF Γ B W (zlistRg f)) :=
  z_listRg hc hg (M _ (by decide)) hg2 (M _ (by decide)) ha na na2
theorem qlenP (i : Nat) {y : Str} {py : Pos} (M : Bn X.mg) (hK : X.K = Γ.K := by rfl) (hN : X.N[i]? = some y := by rfl) (hv : visB X.env.scope y = true := by rfl) (hd : (y == ("__debug__" : Str)) = false := by decide) (hcd : (y == ("__classdict__" : Str)) = false := by decide)
    (hg : Gl X "len" := by rfl) (he : starEach [.Name y py] X.env = (false, eval (.Name y py) X.env) :: starEach [] X.env := by rfl) (hpl : (backTo pos (starEach [] X.env)).any (·.1) = false := by rfl) :
    PE X (.Call (.Name "len" p) [.Name y py] [] pos) (tE Γ B W (zlenP i)) := z_lenP hK hN (visB_ok hv) hd hcd hg (M _ (by decide)) (by rfl) he hpl
theorem flst (ha : PAL X Γ B W es fs) : PE X (.List es pos) (tF Γ B W (zlstF fs)) := z_lstF ha.pa
theorem qtup {x1 : Nat} (ha : PAL X Γ B W es fs) : PE X (.Tuple es x1 pos) (tE Γ B W (ztup fs)) := z_tup ha.pa
/-! comprehensions -/
theorem fcomp {tg iter elt : Expr} {ifs : List Expr} {scope : Scope} {own : List (Str × Nat)} {src : DenL} {t : Tg} {c : M → R Bool} {el : Den} (hN : X.N.Nodup) (hi : PI X tg iter (tI Γ B W src)) (ok : blkC X.N X.env.scope scope own = true)
    (hg : ∀ (B : Bs) (s : Shared) (H : Hp) (C : Addr) (cl : List (Str × Addr)) (fp : List Addr), PG (X.blk s H scope (compEnvC scope cl C X.env) fp) tg (tG Γ B (own.map (·.2)) t))
    (ht : ∀ (B : Bs) (s : Shared) (H : Hp) (C : Addr) (cl : List (Str × Addr)) (fp : List Addr), PTs (X.blk s H scope (compEnvC scope cl C X.env) fp) ifs (tT Γ B W0 c))
    (he : ∀ (B : Bs) (s : Shared) (H : Hp) (C : Addr) (cl : List (Str × Addr)) (fp : List Addr), PE (X.blk s H scope (compEnvC scope cl C X.env) fp) elt (tE Γ B W0 el)) (hc : X.calm = true := by rfl) (hs : ∀ x, foldedSetIterable iter X.env x = pure x := by intro _; rfl) :
    PE X (.ListComp elt [⟨tg, iter, ifs, 0⟩] scope pos) (tF Γ B W (zcompF src t c el (own.map (·.2)))) := z_compF hc hN hi (blkOk_by ok) hg ht he hs
theorem scomp {tg iter elt : Expr} {ifs : List Expr} {scope : Scope} {own : List (Str × Nat)} {src : DenL} {t : Tg} {c : M → R Bool} {el : Den} {y : Str} {py spos : Pos} (i : Nat) (hN : X.N.Nodup) (hi : PI X tg iter (tI Γ B W src)) (ok : blkC X.N X.env.scope scope own = true)
    (hg : ∀ (B : Bs) (s : Shared) (H : Hp) (C : Addr) (cl : List (Str × Addr)) (fp : List Addr), PG (X.blk s H scope (compEnvC scope cl C X.env) fp) tg (tG Γ B (own.map (·.2)) t))
    (ht : ∀ (B : Bs) (s : Shared) (H : Hp) (C : Addr) (cl : List (Str × Addr)) (fp : List Addr), PTs (X.blk s H scope (compEnvC scope cl C X.env) fp) ifs (tT Γ B W0 c))
    (he : ∀ (B : Bs) (s : Shared) (H : Hp) (C : Addr) (cl : List (Str × Addr)) (fp : List Addr), PE (X.blk s H scope (compEnvC scope cl C X.env) fp) elt (tE Γ B W0 el)) (hy : X.N[i]? = some y := by rfl) (hyl : X.env.scope.names.lookup y = some .local := by rfl) (hc : X.calm = true := by rfl) (hs : ∀ x, foldedSetIterable iter X.env x = pure x := by intro _; rfl)
    (hsw : swapsWith (.ListComp elt [⟨tg, iter, ifs, 0⟩] scope pos) (some (.Name y py)) spos.line X.env = pure true := by rfl) :
    PS X (.Assign [.Name y py] (.ListComp elt [⟨tg, iter, ifs, 0⟩] scope pos) spos) (tAsg (tF Γ B W (zcompF src t c el (own.map (·.2)))) (gName i)) := ps_compF (q := fun _ m => .nx m) (gg := gName i) hc hN hy hyl hsw hi (blkOk_by ok) hg ht he hs
theorem scompZ {i : Nat} {kk : DenL} {st : Stmt} (h : PS X st (tAsg (tF Γ B W kk) (gName i))) : PS X st (tS Γ B W (zasg (frz kk) (gset i))) := PS.imp h fun E σ H hz => setFz_conv hz
theorem scompB {i : Nat} {kk : DenL} {st : Stmt} (h : PS X st (tAsg (tF Γ B W kk) (gName i))) : PS X st (tS Γ B W (zsetB i kk)) := PS.imp h fun E σ H hz => setF_conv hz
theorem tno : PTs X [] (tT Γ B W yes) := ⟨fun pins s σ H Q I ⟨m, z, rl, h⟩ => (pts_nil (X := X)).run pins s σ H Q I (h z true H (Ext.refl _) rl rfl)⟩
theorem tone {c : Expr} {t : M → R Bool} (h : PT X c (tT Γ B W t)) : PTs X [c] (tT Γ B W t) := pts_one h
/-! iterations -/
theorem irange {tg : Expr} (M : Bn X.mg) (ha : PAL X Γ B W [e] fs) (hg : Gl X "range" := by rfl) (hs : starEach [e] X.env = [(false, eval e X.env)] := by rfl) : PI X tg (.Call (.Name "range" p) [e] [] pos) (tI Γ B W (zrange fs)) := i_range hg (M _ (by decide)) ha.pa hs
theorem iseq {tg : Expr} (ha : PE X a (tE Γ B W f)) (hK : X.K = Γ.K := by rfl) : PI X tg a (tI Γ B W (zseqI f)) := i_seq hK ha
/-! targets, stores -/
theorem gname (i : Nat) (hN : X.N.Nodup) (hi : X.N[i]? = some x := by rfl) (hx : locB X.env.scope x = true := by rfl) (hf : X.fn x = true ∨ X.env.scope.names.lookup x = some .local := by first | exact .inl rfl | exact .inr rfl) : PG X (.Name x pos) (tG Γ B [i] (gset i)) := z_gname hN hi (locB_ok hx) hf
theorem gscons {own owns : List Nat} {t : Tg} {ts : Tgs} (h1 : PG X e (tG Γ B own t)) (h2 : PGs X es (tGs Γ B owns ts)) (hs : (assignEach (e :: es) X.env).map (·.2) = assign e X.env :: (assignEach es X.env).map (·.2) := by rfl) : PGs X (e :: es) (tGs Γ B (own ++ owns) (gcons t ts)) := z_gcons h1 h2 hs
theorem gtuple {n : Nat} {own : List Nat} {ts : Tgs} {kk : Nat} (h : PGs X es (tGs Γ B own ts)) (hK : X.K = Γ.K := by rfl) (hc : X.calm = true := by rfl) (hn : (assignEach es X.env).length = n := by rfl) (hst : (assignEach es X.env).findIdx? (·.1) = none := by rfl) : PG X (.Tuple es kk pos) (tG Γ B own (gtup n ts)) := z_gtup hK hc h hn hst
theorem sset {pos' : Pos} (i : Nat) (hN : X.N.Nodup) (he : PE X a (tE Γ B W f)) (hi : X.N[i]? = some x := by rfl) (hx : locB X.env.scope x = true := by rfl) (hs : swapsWith a (some (.Name x pos')) pos.line X.env = pure false := by rfl) (hf : X.fn x = true ∨ X.env.scope.names.lookup x = some .local := by exact .inl rfl) :
    PS X (.Assign [.Name x pos'] a pos) (tS Γ B W (zasg f (gset i))) := z_set hN hi (locB_ok hx) he hs hf
theorem ssetB {pos' : Pos} {kk : DenL} (i : Nat) (hN : X.N.Nodup) (he : PE X a (tF Γ B W kk)) (hi : X.N[i]? = some x := by rfl) (hx : locB X.env.scope x = true := by rfl) (hs : swapsWith a (some (.Name x pos')) pos.line X.env = pure false := by rfl) (hf : X.fn x = true ∨ X.env.scope.names.lookup x = some .local := by exact .inl rfl) :
    PS X (.Assign [.Name x pos'] a pos) (tS Γ B W (zsetB i kk)) := z_setB hN hi (locB_ok hx) he hs hf
theorem sasg {tg : Expr} {own : List Nat} {t : Tg} (he : PE X a (tE Γ B W f)) (hg : PG X tg (tG Γ B own t)) (hs : swapsWithSole [tg] a pos.line X.env = pure false := by rfl) (hw : swappedStores [tg] a X.env = pure none := by rfl) (h1 : (assignEach [tg] X.env).map (·.2) = [assign tg X.env] := by rfl) : PS X (.Assign [tg] a pos) (tS Γ B W (zasg f t)) := z_asg he hg hs hw h1
theorem sexpr (ha : PE X a (tE Γ B W f)) (hs : swapsWith a none pos.line X.env = pure false := by rfl) : PS X (.Expr a pos) (tS Γ B W (zexpr f)) := z_expr ha hs
theorem sbad {st : Stmt} : PS X st (tS Γ B W fun _ => .bad) := ⟨fun pins s σ H D I ⟨m, z, rl, h⟩ => h.elim⟩
theorem sfor {tg iter : Expr} {body : List Stmt} {src : DenL} {own : List Nat} {t : Tg} {fb : DenS} (hp : PassesOwn (model X.prog X.w) X.A X.env X.xe) (hi : PI X tg iter (tI Γ B W src)) (hg : PG X tg (tG Γ B own t)) (hb : PSs X body (tS Γ B W fb)) (hc : X.calm = true := by rfl)
    (hs : ∀ x, foldedSetIterable iter X.env x = pure x := by intro _; rfl) : PS X (.For tg iter body [] pos) (tS Γ B W (zfor src t fb)) := z_for hp hc hi hg hb hs
def slSz : Sl → Nat
  | .val (.int i) => i.natAbs
  | .val (.lst xs) => xs.length
  | .box .l xs => xs.length
  | _ => 0
def fuelM (m : M) : Nat := (m.e.map slSz).sum + 2
def zwhile (c : Den) (f : DenS) : DenS := fun m => whileL c f (fuelM m) m
theorem swhile {c : Expr} {body : List Stmt} {fb : DenS} (hp : PassesOwn (model X.prog X.w) X.A X.env X.xe) (hc : PT X c (tT Γ B W (toB h))) (hb : PSs X body (tS Γ B W fb)) : PS X (.While c body [] pos) (tS Γ B W (zwhile h fb)) :=
  ⟨fun pins s σ H D I ⟨m, z, rl, hh⟩ => (z_while (fuelM m) hp hc hb).run pins s σ H D I ⟨m, z, rl, hh⟩⟩
theorem npar {es : List Expr} {ts : List Expr} {is : List Nat} {gs : M → R (List Sl)} {kt k2 : Nat} {pt pt2 : Pos} (ha : PA X es (tAs Γ B W gs)) (hts : PGs X ts (gNames is)) (hK : X.K = Γ.K := by rfl) (hc : X.calm = true := by rfl) (hn : (assignEach ts X.env).length = is.length := by rfl) (hst : (assignEach ts X.env).findIdx? (·.1) = none := by rfl)
    (hs : swapsWithSole [.Tuple ts kt pt] (.Tuple es k2 pt2) pos.line X.env = pure false := by rfl) (hw : swappedStores [.Tuple ts kt pt] (.Tuple es k2 pt2) X.env = pure none := by rfl) (h1 : (assignEach [.Tuple ts kt pt] X.env).map (·.2) = [assign (.Tuple ts kt pt) X.env] := by rfl) (hsm : is.length ≤ 1000 := by decide) :
    PS X (.Assign [.Tuple ts kt pt] (.Tuple es k2 pt2) pos) (tS Γ B W (zpar is gs)) := z_parN hK hc ha hts hn hst hs hw h1 hsm
theorem par2 {u v : Str} {gs : M → R (List Sl)} {px py pt pt2 : Pos} {kt k2 : Nat} (i j : Nat) (hN : X.N.Nodup) (ha : PA X [a, b] (tAs Γ B W gs)) (hc : X.calm = true := by rfl) (hi : X.N[i]? = some u := by rfl) (hj : X.N[j]? = some v := by rfl) (hij : i ≠ j := by decide) (hx : X.env.scope.names.lookup u = some .local := by rfl) (hy : X.env.scope.names.lookup v = some .local := by rfl)
    (hw : swappedStores [.Tuple [.Name u px, .Name v py] kt pt] (.Tuple [a, b] k2 pt2) X.env = pure (some [u, v]) := by rfl) (hs : swapsWithSole [.Tuple [.Name u px, .Name v py] kt pt] (.Tuple [a, b] k2 pt2) pos.line X.env = pure false := by rfl) :
    PS X (.Assign [.Tuple [.Name u px, .Name v py] kt pt] (.Tuple [a, b] k2 pt2) pos) (tS Γ B W (zpar [i, j] gs)) := z_par2 hc hN hi hj hij hx hy ha hw hs
theorem sval' {gs : M → R (List Sl)} (ha : PE X e (tE Γ B W f)) (hr : PA X es (tAs Γ B W gs)) (hs : starEach (e :: es) X.env = (false, eval e X.env) :: starEach es X.env := by rfl) : PA X (e :: es) (tAs Γ B W (sval f gs)) := s_val ha hr hs
theorem snew' {kk : DenL} {gs : M → R (List Sl)} (ha : PE X e (tF Γ B W kk)) (hr : ∀ B, PA X es (tAs Γ B W gs)) (hs : starEach (e :: es) X.env = (false, eval e X.env) :: starEach es X.env := by rfl) : PA X (e :: es) (tAs Γ B W (snew kk gs)) := s_new ha hr hs
theorem qneg (ha : PE X a (tE Γ B W f)) : PE X (.UnaryOp .USub a pos) (tE Γ B W (zneg f)) := z_neg ha
theorem par3 {u v w : Str} {c : Expr} {gs : M → R (List Sl)} {px py pz pt pt2 : Pos} {kt k2 : Nat} (i j l : Nat) (hN : X.N.Nodup) (ha : PA X [a, b, c] (tAs Γ B W gs)) (hc : X.calm = true := by rfl) (hi : X.N[i]? = some u := by rfl) (hj : X.N[j]? = some v := by rfl) (hl : X.N[l]? = some w := by rfl) (hij : i ≠ j := by decide) (hil : i ≠ l := by decide) (hjl : j ≠ l := by decide)
    (hx : X.env.scope.names.lookup u = some .local := by rfl) (hy : X.env.scope.names.lookup v = some .local := by rfl) (hz : X.env.scope.names.lookup w = some .local := by rfl)
    (hw : swappedStores [.Tuple [.Name u px, .Name v py, .Name w pz] kt pt] (.Tuple [a, b, c] k2 pt2) X.env = pure (some [u, v, w]) := by rfl) (hs : swapsWithSole [.Tuple [.Name u px, .Name v py, .Name w pz] kt pt] (.Tuple [a, b, c] k2 pt2) pos.line X.env = pure false := by rfl) :
    PS X (.Assign [.Tuple [.Name u px, .Name v py, .Name w pz] kt pt] (.Tuple [a, b, c] k2 pt2) pos) (tS Γ B W (zpar [i, j, l] gs)) := z_par3 hc hN hi hj hl hij hil hjl hx hy hz ha hw hs
theorem gn {ts : List Expr} {is : List Nat} (i : Nat) (hN : X.N.Nodup) (hr : PGs X ts (gNames is)) (hi : X.N[i]? = some x := by rfl) (hx : locB X.env.scope x = true := by rfl) (hf : X.fn x = true ∨ X.env.scope.names.lookup x = some .local := by first | exact .inl rfl | exact .inr rfl)
    (hs : (assignEach (.Name x pos :: ts) X.env).map (·.2) = assign (.Name x pos) X.env :: (assignEach ts X.env).map (·.2) := by rfl) : PGs X (.Name x pos :: ts) (gNames (i :: is)) := pgs_cons (pg_name hN hi (locB_ok hx) hf) hr hs
theorem gn0 : PGs X [] (gNames []) := pgs_nil
theorem sitem {o i : Expr} {apos : Pos} (he : PE X e (tE Γ B W f)) (ho : PE X o (tE Γ B W g)) (hi : PE X i (tE Γ B W h)) (hs : swapsWithSole [.Subscript o i apos] e pos.line X.env = pure false := by rfl) (hw : swappedStores [.Subscript o i apos] e X.env = pure none := by rfl)
    (h1 : (assignEach [.Subscript o i apos] X.env).map (·.2) = [assign (.Subscript o i apos) X.env] := by rfl)
    (hasg : ∀ v, assign (.Subscript o i apos) X.env v = (do
      let ov ← holding [v] (eval o X.env)
      let iv ← holding [v, ov] (eval i X.env)
      standAt apos
      holding [v, ov, iv] (setItem ov iv v)
      release [v, ov, iv] []) := by intro _; rfl) : PS X (.Assign [.Subscript o i apos] e pos) (tS Γ B W (zsetItem f g h)) := z_setItem ho hi he hasg hs hw h1
/-- a method of a list that a name builds -/
structure MbZ (X : Cx) (Γ : Gm) (name : Str) (k : List D → List D → Option (D × List D)) : Prop where
  ex : ∃ id r, Slot "list" name id ∧ typeOf (.builtin id) = pure (.type "method_descriptor") ∧ MtR X id r ∧ MtZ Γ r k
theorem mappend : MbZ X Γ "append" appendK := ⟨_, _, PySem.F.slot_list_append, PySem.F.type_list_append, mt_append, mz_append⟩
theorem mextend : MbZ X Γ "extend" extendK := ⟨_, _, PySem.F.slot_list_extend, PySem.F.type_list_extend, mt_extend, mz_extend⟩
theorem mpop : MbZ X Γ "pop" popK := ⟨_, _, PySem.F.slot_list_pop, PySem.F.type_list_pop, mt_popAt, mz_pop⟩
theorem qbld {y name : Str} {k : List D → List D → Option (D × List D)} {apos : Pos} (i : Nat) (C : MbZ X Γ name k) (ha : PAL X Γ B W (e :: es) fs) (hN : X.N[i]? = some y := by rfl) (hv : visB X.env.scope y = true := by rfl) (hd : (y == ("__debug__" : Str)) = false := by decide) (hcd : (y == ("__classdict__" : Str)) = false := by decide)
    (hbase : attributeBase (.Name y p) name X.env (eval (.Name y p) X.env) = eval (.Name y p) X.env := by rfl)
    (hfew : ((backTo pos (starEach (e :: es) X.env)).all (fun x => !x.1) && (backToKw pos (keywordEach [] X.env)).all (fun x => x.1.isSome)
      && decide ((e :: es).length + ([] : List Keyword).length + (if ([] : List Keyword).isEmpty then 0 else 1) < 30)) = true := by rfl)
    (hline : (apos.endLine == pos.line) = true := by rfl) (hs : starEach (e :: es) X.env = (false, eval e X.env) :: starEach es X.env := by rfl) (hplain : (backTo pos (starEach es X.env)).any (·.1) = false := by rfl) :
    PE X (.Call (.Attribute (.Name y p) name apos) (e :: es) [] pos) (tE Γ B W (zbld i fs k)) := by
  obtain ⟨id, r, h1, h2, h3, h4⟩ := C.ex
  exact z_bld PySem.F.plainAttrs_list h1 h2 h3 h4 hN (visB_ok hv) hd hcd ha.pa hbase hfew hline hs hplain
theorem izip {e2 : Expr} {tpos : Pos} {elts : List Expr} {kk : Nat} (M : Bn X.mg) (ha : PAL X Γ B W [e, e2] fs) (hK : X.K = Γ.K := by rfl) (hg : Gl X "zip" := by rfl) (hs : starEach [e, e2] X.env = (false, eval e X.env) :: starEach [e2] X.env := by rfl) (hpl : (backTo pos (starEach [e2] X.env)).any (·.1) = false := by rfl) :
    PI X (.Tuple elts kk tpos) (.Call (.Name "zip" p) [e, e2] [] pos) (tI Γ B W (zzip fs)) := i_zip hK hg (M _ (by decide)) ha.pa hs hpl
end
/-! ### a def of the text -/
section
variable {Γ : Gm} {P : Program} {w : World} {mg : Str → Option Value} {base : Heap} {x q : Str} {params : Arguments} {body : List Stmt} {sc : Scope} {dvs : List V} {kws : List (Str × V)} {f : Addr} {fd : FuncData} {N ps : List Str} {n k : Nat} {g : DenS} {dfl : List D}
theorem calOf (F : FunD Γ.K x q params body sc dvs kws f fd) (hm : mg x = some (.ref f)) (S : FnScope N ps sc) (hn : n = ps.length)
    (hb : ∀ (cdv : Value) (A : Around) (outer : List Env) (s : Shared) (H : Hp) (E : XK) (z : Fz), A.guards = some [] → Room k (A.deeper (envOfC q sc s.heap.objs.size f cdv)) →
      PSs (cxOf (L2.CX P w) P w Γ.K mg base N q sc f cdv A outer s H E) body (tS Γ ⟨H, z, [], 0, false⟩ (fun c d _ H => E c d H) g))
    (hd : ∀ j, j ≤ dfl.length → ∃ ds dvs, Binds Γ.K fd ps ds ∧ Vals dvs ds ∧ ∀ z, RepL Γ z (dfl.drop j) dvs) : Cal Γ P w mg base x (k + 1) n dfl (bodyFn N n g) :=
  ⟨f, fd, ps, FunD.okZ F S hn hb, hm, F.kp, hd⟩
theorem bind0 (F : FunD Γ.K x q params body sc [] kws f fd) (h : ∀ (kV doc pm : Value) (an : Option Addr) (cdv ct : Value) (us : List Value), us.length = ps.length → bindArgs (PySem.W.fnOf x q params body sc .none kV doc pm an cdv ct) ⟨us, []⟩ = pure (ps.zip us)) :
    ∀ j, j ≤ ([] : List D).length → ∃ ds dvs, Binds Γ.K fd ps ds ∧ Vals dvs ds ∧ ∀ z, RepL Γ z (([] : List D).drop j) dvs := fun j _ => ⟨[], [], F.bindsN h, .nil, fun z => by rw [List.drop_nil]; exact RepL.nil⟩
theorem takesCx {cdv : Value} {A : Around} {outer : List Env} {s : Shared} {H : Hp} {E : XK} : Takes (cxOf (L2.CX P w) P w Γ.K mg base N q sc f cdv A outer s H E) (fun c d _ H => E c d H) := takes_of rfl rfl rfl rfl
theorem ownsCx {cdv : Value} {A : Around} {outer : List Env} {s : Shared} {H : Hp} {E : XK} : PassesOwn (model P w) (cxOf (L2.CX P w) P w Γ.K mg base N q sc f cdv A outer s H E).A (cxOf (L2.CX P w) P w Γ.K mg base N q sc f cdv A outer s H E).env (cxOf (L2.CX P w) P w Γ.K mg base N q sc f cdv A outer s H E).xe := passes_of rfl
end
/-- in a comprehension no error is let out -/
theorem takes0 {X : Cx} : Takes X W0 := fun _ _ ⟨_, _, _, _, _, _, _, _, _, _, _, _, _, _, _, _, w⟩ => w.elim
end Z

set_option linter.all false
namespace Z
open PySem PySem.Spec PyProof.Rows L2 RZ
theorem isi_int_non  : isiD "int" .non = some (.bl false) := by rfl
theorem isi_int_bl (b : Bool) : isiD "int" (.bl b) = some (.bl true) := by rfl
theorem isi_int_int (i : Int) : isiD "int" (.int i) = some (.bl true) := by rfl
theorem isi_int_str (x : Str) : isiD "int" (.str x) = some (.bl false) := by rfl
theorem isi_int_tup (ds : List D) : isiD "int" (.tup ds) = some (.bl false) := by rfl
theorem isi_int_lst (ds : List D) : isiD "int" (.lst ds) = some (.bl false) := by rfl
theorem isi_int_dct (ks ds : List D) : isiD "int" (.dct ks ds) = some (.bl false) := by rfl
theorem isi_bool_non  : isiD "bool" .non = some (.bl false) := by rfl
theorem isi_bool_bl (b : Bool) : isiD "bool" (.bl b) = some (.bl true) := by rfl
theorem isi_bool_int (i : Int) : isiD "bool" (.int i) = some (.bl false) := by rfl
theorem isi_bool_str (x : Str) : isiD "bool" (.str x) = some (.bl false) := by rfl
theorem isi_bool_tup (ds : List D) : isiD "bool" (.tup ds) = some (.bl false) := by rfl
theorem isi_bool_lst (ds : List D) : isiD "bool" (.lst ds) = some (.bl false) := by rfl
theorem isi_bool_dct (ks ds : List D) : isiD "bool" (.dct ks ds) = some (.bl false) := by rfl
theorem isi_tuple_non  : isiD "tuple" .non = some (.bl false) := by rfl
theorem isi_tuple_bl (b : Bool) : isiD "tuple" (.bl b) = some (.bl false) := by rfl
theorem isi_tuple_int (i : Int) : isiD "tuple" (.int i) = some (.bl false) := by rfl
theorem isi_tuple_str (x : Str) : isiD "tuple" (.str x) = some (.bl false) := by rfl
theorem isi_tuple_tup (ds : List D) : isiD "tuple" (.tup ds) = some (.bl true) := by rfl
theorem isi_tuple_lst (ds : List D) : isiD "tuple" (.lst ds) = some (.bl false) := by rfl
theorem isi_tuple_dct (ks ds : List D) : isiD "tuple" (.dct ks ds) = some (.bl false) := by rfl
theorem isi_str_non  : isiD "str" .non = some (.bl false) := by rfl
theorem isi_str_bl (b : Bool) : isiD "str" (.bl b) = some (.bl false) := by rfl
theorem isi_str_int (i : Int) : isiD "str" (.int i) = some (.bl false) := by rfl
theorem isi_str_str (x : Str) : isiD "str" (.str x) = some (.bl true) := by rfl
theorem isi_str_tup (ds : List D) : isiD "str" (.tup ds) = some (.bl false) := by rfl
theorem isi_str_lst (ds : List D) : isiD "str" (.lst ds) = some (.bl false) := by rfl
theorem isi_str_dct (ks ds : List D) : isiD "str" (.dct ks ds) = some (.bl false) := by rfl
theorem isi_list_non  : isiD "list" .non = some (.bl false) := by rfl
theorem isi_list_bl (b : Bool) : isiD "list" (.bl b) = some (.bl false) := by rfl
theorem isi_list_int (i : Int) : isiD "list" (.int i) = some (.bl false) := by rfl
theorem isi_list_str (x : Str) : isiD "list" (.str x) = some (.bl false) := by rfl
theorem isi_list_tup (ds : List D) : isiD "list" (.tup ds) = some (.bl false) := by rfl
theorem isi_list_lst (ds : List D) : isiD "list" (.lst ds) = some (.bl true) := by rfl
theorem isi_list_dct (ks ds : List D) : isiD "list" (.dct ks ds) = some (.bl false) := by rfl
theorem isi_dict_non  : isiD "dict" .non = some (.bl false) := by rfl
theorem isi_dict_bl (b : Bool) : isiD "dict" (.bl b) = some (.bl false) := by rfl
theorem isi_dict_int (i : Int) : isiD "dict" (.int i) = some (.bl false) := by rfl
theorem isi_dict_str (x : Str) : isiD "dict" (.str x) = some (.bl false) := by rfl
theorem isi_dict_tup (ds : List D) : isiD "dict" (.tup ds) = some (.bl false) := by rfl
theorem isi_dict_lst (ds : List D) : isiD "dict" (.lst ds) = some (.bl false) := by rfl
theorem isi_dict_dct (ks ds : List D) : isiD "dict" (.dct ks ds) = some (.bl true) := by rfl
end Z
set_option Elab.async false
set_option linter.all false
set_option maxRecDepth 100000
set_option maxHeartbeats 2000000
/-! Z13: sizes of numbers, small facts of data -/
namespace Z
open PySem PySem.Spec PyProof.Rows L2 RZ
theorem bind_ok {α β : Type} {a : α} {m : M} {k : α → M → R β} : (R.ok a m).bind k = k a m := rfl
theorem thenS_ok {α : Type} {a : α} {m : M} {k : α → M → RS} : (R.ok a m).thenS k = k a m := rfl
theorem ofO_some {α : Type} {a : α} {m : M} : ofO (some a) m = .ok a m := rfl
def Bt (k : Nat) (a : Int) : Prop := a.natAbs < 2 ^ k
theorem Bt.lg {k : Nat} {a : Int} (h : Bt k a) : a.natAbs.log2 ≤ k := by
  by_cases h0 : a.natAbs = 0
  · rw [h0]; simp
  · exact Nat.le_of_lt ((Nat.log2_lt h0).mpr h)
theorem Bt.lt {k : Nat} {a : Int} (hk : 0 < k) (h : Bt k a) : a.natAbs.log2 < k := by
  by_cases h0 : a.natAbs = 0
  · rw [h0]; simpa using hk
  · exact (Nat.log2_lt h0).mpr h
theorem Bt.mono {j k : Nat} {a : Int} (h : Bt j a) (e : j ≤ k) : Bt k a := Nat.lt_of_lt_of_le h (Nat.pow_le_pow_right (by decide) e)
theorem Bt.mul {j k : Nat} {a b : Int} (ha : Bt j a) (hb : Bt k b) : Bt (j + k) (a * b) := by
  unfold Bt at *
  rw [Int.natAbs_mul, Nat.pow_add]
  exact Nat.mul_lt_mul'' ha hb
theorem Bt.add {j k : Nat} {a b : Int} (ha : Bt j a) (hb : Bt k b) : Bt (max j k + 1) (a + b) := by
  have h1 := ha.mono (Nat.le_max_left j k)
  have h2 := hb.mono (Nat.le_max_right j k)
  unfold Bt at *
  have h3 := Int.natAbs_add_le a b
  have h4 : 2 ^ (max j k + 1) = 2 ^ max j k + 2 ^ max j k := by rw [Nat.pow_succ]; omega
  omega
theorem Bt.neg {k : Nat} {a : Int} (h : Bt k a) : Bt k (-a) := by unfold Bt at *; rw [Int.natAbs_neg]; exact h
theorem Bt.emod {k : Nat} {a b : Int} (h0 : 0 < b) (h : Bt k b) : Bt k (a % b) := by
  have h1 := Int.emod_nonneg a (show b ≠ 0 by omega)
  have h2 := Int.emod_lt_of_pos a h0
  unfold Bt at *
  omega
theorem Bt.pow {k : Nat} {a : Int} (h : Bt k a) : ∀ n : Nat, 0 < n → Bt (k * n) (a ^ n)
  | 0, h0 => by omega
  | 1, _ => by rw [Int.pow_succ, Int.pow_zero, Int.one_mul, Nat.mul_one]; exact h
  | n + 2, _ => by
    rw [Int.pow_succ, Nat.mul_succ]
    exact (Bt.pow h (n + 1) (by omega)).mul h
theorem Bt.lit {k : Nat} {a : Int} (h : decide (a.natAbs < 2 ^ k) = true) : Bt k a := show a.natAbs < 2 ^ k from of_decide_eq_true h
theorem Bt.of {k : Nat} {a : Int} (h0 : 0 ≤ a) (h : a < 2 ^ k) : Bt k a := by
  unfold Bt
  have : (a.natAbs : Int) < ((2 ^ k : Nat) : Int) := by
    rw [Int.natAbs_of_nonneg h0]
    push_cast
    exact h
  exact_mod_cast this
theorem mulB {j k : Nat} {a b : Int} (ha : Bt j a) (hb : Bt k b) (h : j + k < 1000000) : mulZ (.int a) (.int b) = some (.int (a * b)) := by
  have h1 := ha.lg
  have h2 := hb.lg
  simp only [mulZ, mulD]
  rw [if_pos (decide_eq_true (by omega))]
theorem fdivB {k : Nat} {a b : Int} (h0 : b ≠ 0) (hb : Bt k b) (h : k < 9000) : fdivD (.int a) (.int b) = some (.int (a.fdiv b)) := by
  have h2 := hb.lg
  simp only [fdivD]
  rw [if_pos (decide_eq_true ⟨h0, by omega⟩)]
theorem modB {a b : Int} (h0 : 0 < b) : modD (.int a) (.int b) = some (.int (a % b)) := by
  simp only [modD]
  rw [if_pos (decide_eq_true (by omega)), Int.fmod_eq_emod_of_nonneg _ (by omega)]
theorem powB {k : Nat} {a : Int} (n : Nat) (h : Bt k a) (hk : k * n ≤ 2 ^ 26) (hn : n ≤ 1000) : powD (.int a) (.int n) = some (.int (a ^ n)) := by
  simp only [powD]
  have h1 := h.lg
  have h2 : Builtin.Int.intBits a ≤ k + 1 := by
    unfold Builtin.Int.intBits
    split <;> omega
  have h3 := Nat.mul_le_mul_right n h2
  have h4 : (k + 1) * n = k * n + n := Nat.succ_mul k n
  have h5 : Builtin.Int.intBits a * n ≤ 2 ^ 27 := by omega
  rw [if_pos (decide_eq_true ⟨by omega, by exact_mod_cast h5⟩), Int.toNat_natCast]
theorem powC {a b c : Int} (h : decide (0 ≤ b ∧ (Builtin.Int.intBits a : Int) * b ≤ 2 ^ 27 ∧ a ^ b.toNat = c) = true) : powD (.int a) (.int b) = some (.int c) := by
  obtain ⟨h1, h2, h3⟩ := of_decide_eq_true h
  simp only [powD]
  rw [if_pos (decide_eq_true ⟨h1, h2⟩), h3]
theorem mulC {a b : Int} (h : decide (a.natAbs.log2 + b.natAbs.log2 < 1000000) = true) : mulZ (.int a) (.int b) = some (.int (a * b)) := by
  simp only [mulZ, mulD]
  rw [if_pos h]
theorem absN (x : Int) : (if x < 0 then -x else x) = (x.natAbs : Int) := by split <;> omega
/-! places -/
theorem at0 {α : Type} {x : α} {xs : List α} : atI (x :: xs) 0 = some x := atI_nat (j := 0) rfl
theorem at1 {α : Type} {x y : α} {xs : List α} : atI (x :: y :: xs) 1 = some y := atI_nat (j := 1) rfl
theorem at2 {α : Type} {x y w : α} {xs : List α} : atI (x :: y :: w :: xs) 2 = some w := atI_nat (j := 2) rfl
theorem atN {α : Type} {xs : List α} {i : Int} (h0 : 0 ≤ i) (h : i.toNat < xs.length) : atI xs i = some xs[i.toNat] := by
  have e := atI_nat (xs := xs) (j := i.toNat) (v := xs[i.toNat]) (by rw [List.getElem?_eq_getElem])
  rw [show ((i.toNat : Nat) : Int) = i by omega] at e
  exact e
theorem ix0 {n : Nat} : ixN (n + 1) 0 = some 0 := by
  unfold ixN
  rw [if_pos (by omega), if_pos (by omega)]
  rfl
theorem ix2 {n : Nat} : ixN (n + 3) 2 = some 2 := by
  unfold ixN
  rw [if_pos (by omega), if_pos (by omega)]
  rfl
theorem range_ok {n : Nat} (h : n < 1000000) : rangeS [.int (n : Nat)] = some ((List.range n).map fun i => .int (i : Nat)) := by
  unfold rangeS
  simp only
  rw [if_pos (decide_eq_true (by omega))]
  rfl
theorem rangeF_ok {n : Nat} (h : n < 1000000) : rangeF (.int (n : Nat)) = some ((List.range n).map fun i => .int (i : Nat)) := by
  unfold rangeF
  simp only
  rw [if_pos (decide_eq_true (by omega))]
  simp [range2D]
theorem small_of {n : Nat} (h : n < 1000000) : small n = true := decide_eq_true (by omega)
theorem zlstF_nil {m : M} : zlstF znil m = .ok [] m := by
  have h : small ([] : List D).length = true := small_of (by simp)
  unfold zlstF znil
  show (if small ([] : List D).length = true then R.ok [] m else R.bad) = _
  rw [if_pos h]
theorem ztup_nil {m : M} : ztup znil m = .ok (.tup []) m := by
  have h : small ([] : List D).length = true := small_of (by simp)
  unfold ztup znil
  show (if small ([] : List D).length = true then R.ok (D.tup []) m else R.bad) = _
  rw [if_pos h]
theorem sq1 {f g : DenS} {m m1 : M} (h : f m = .nx m1) : zseq f g m = g m1 := by
  unfold zseq
  rw [h]
theorem sq2 {f g : DenS} {m m1 : M} {d : D} (h : f m = .rt d m1) : zseq f g m = .rt d m1 := by
  unfold zseq
  rw [h]
theorem fnR {N : List Str} {n : Nat} {g : DenS} {ds : List D} {S S' : List (List D)} {d : D} {e : List Sl} (h : g ⟨padE N ds, S⟩ = .rt d ⟨e, S'⟩) (hl : ds.length = n := by rfl) : bodyFn N n g ds S = .ok d S' := by
  unfold bodyFn
  rw [if_pos hl, h]
  rfl
theorem rt1 {f : Den} {m m1 : M} {d : D} (h : f m = .ok d m1) : zret f m = .rt d m1 := by
  unfold zret
  rw [h]
  rfl
theorem for1 {src : DenL} {t : Tg} {b : DenS} {m m1 : M} {ds : List D} (h : src m = .ok ds m1) : zfor src t b m = forL t b ds m1 := by
  unfold zfor
  rw [h]
  rfl
theorem if1 {c : Den} {f g : DenS} {m m1 : M} (h : toB c m = .ok true m1) : zif c f g m = f m1 := by
  unfold zif
  rw [h]
  rfl
theorem if0 {c : Den} {f g : DenS} {m m1 : M} (h : toB c m = .ok false m1) : zif c f g m = g m1 := by
  unfold zif
  rw [h]
  rfl
theorem as1 {f : Den} {t : Tg} {m m1 m2 : M} {d : D} (h : f m = .ok d m1) (ht : t d m1 = some m2) : zasg f t m = .nx m2 := by
  unfold zasg
  rw [h]
  show (match t d m1 with
    | some m2 => RS.nx m2
    | none => .bad) = _
  rw [ht]
theorem ca1 {φ : Fn} {dd ds : List D} {fs : DenL} {m m1 : M} {d : D} {S' : List (List D)} (h : fs m = .ok ds m1) (hf : φ (ds ++ dd) m1.S = .ok d S') : zcall φ dd fs m = .ok d ⟨m1.e, S'⟩ := by
  unfold zcall
  rw [h]
  show backR (φ (ds ++ dd) m1.S) m1 = _
  rw [hf]
  rfl
theorem zrange1 {fs : DenL} {m m1 : M} {n : Nat} (h : fs m = .ok [.int (n : Nat)] m1) (hn : n < 1000000) : zrange fs m = .ok ((List.range n).map fun i => .int (i : Nat)) m1 := by
  simp only [zrange, h, bind_ok, range_ok hn, ofO_some]
theorem zlistRg1 {f : Den} {m m1 : M} {n : Nat} (h : f m = .ok (.int (n : Nat)) m1) (hn : n < 1000000) : zlistRg f m = .ok ((List.range n).map fun i => .int (i : Nat)) m1 := by
  simp only [zlistRg, h, bind_ok, rangeF_ok hn, ofO_some]
theorem fo1 {t : Tg} {b : DenS} {d : D} {ds : List D} {m m1 m2 : M} (h : t d m = some m1) (hb : b m1 = .nx m2) : forL t b (d :: ds) m = forL t b ds m2 := by
  simp only [forL, h, hb]
theorem fo2 {t : Tg} {b : DenS} {d r : D} {ds : List D} {m m1 m2 : M} (h : t d m = some m1) (hb : b m1 = .rt r m2) : forL t b (d :: ds) m = .rt r m2 := by
  simp only [forL, h, hb]
theorem fo0 {t : Tg} {b : DenS} {m : M} : forL t b [] m = .nx m := rfl
/-! comprehensions -/
inductive All2 {α β : Type} (P : α → β → Prop) : List α → List β → Prop
  | nil : All2 P [] []
  | cons {a : α} {b : β} {as : List α} {bs : List β} : P a b → All2 P as bs → All2 P (a :: as) (b :: bs)
theorem All2.length {α β : Type} {P : α → β → Prop} : ∀ {as : List α} {bs : List β}, All2 P as bs → as.length = bs.length
  | _, _, .nil => rfl
  | _, _, .cons _ h => by rw [List.length_cons, List.length_cons, h.length]
theorem All2.imp {α β : Type} {P Q : α → β → Prop} (hi : ∀ a b, P a b → Q a b) : ∀ {as : List α} {bs : List β}, All2 P as bs → All2 Q as bs
  | _, _, .nil => .nil
  | _, _, .cons p h => .cons (hi _ _ p) (h.imp hi)
/-- answers of one form -/
theorem All2.ex {α β γ : Type} {f : γ → β} {P : α → γ → Prop} : ∀ {as : List α} {bs : List β}, All2 (fun a b => ∃ c, b = f c ∧ P a c) as bs → ∃ cs, bs = cs.map f ∧ All2 P as cs
  | _, _, .nil => ⟨[], rfl, .nil⟩
  | _, _, .cons ⟨c, e, p⟩ h => by
    obtain ⟨cs, e2, h2⟩ := h.ex
    exact ⟨c :: cs, by rw [e, e2]; rfl, .cons p h2⟩
theorem All2.right {α β : Type} {P : α → β → Prop} {Q : β → Prop} (hi : ∀ a b, P a b → Q b) : ∀ {as : List α} {bs : List β}, All2 P as bs → ∀ b ∈ bs, Q b
  | _, _, .nil, b, hb => nomatch hb
  | _, _, .cons p h, b, hb => by
    rcases List.mem_cons.mp hb with e | hb
    · rw [e]; exact hi _ _ p
    · exact h.right hi b hb
theorem All2.eq_map {α β : Type} {f : α → β} : ∀ {as : List α} {bs : List β}, All2 (fun a b => b = f a) as bs → bs = as.map f
  | _, _, .nil => rfl
  | _, _, .cons e h => by rw [e, h.eq_map]; rfl
theorem compL_map {t : Tg} {el : Den} {own : List Nat} {I : M → Prop} {P : D → D → Prop} : ∀ (ds acc : List D) (m : M), I m →
    (∀ d ∈ ds, ∀ m, I m → ∃ m1 x m2, t d m = some m1 ∧ el m1 = .ok x m2 ∧ I (hide own m2) ∧ P d x) → ∃ xs m', compL t yes el own ds acc m = .ok (acc ++ xs) m' ∧ I m' ∧ All2 P ds xs
  | [], acc, m, hI, _ => ⟨[], m, by rw [List.append_nil]; rfl, hI, .nil⟩
  | d :: ds, acc, m, hI, h => by
    obtain ⟨m1, x, m2, e1, e2, e3, e4⟩ := h d (List.mem_cons_self ..) m hI
    obtain ⟨xs, m', h1, h2, h3⟩ := compL_map ds (acc ++ [x]) (hide own m2) e3 fun d hd => h d (List.mem_cons_of_mem _ hd)
    refine ⟨x :: xs, m', ?_, h2, .cons e4 h3⟩
    simp only [compL, e1, yes, if_true, e2, h1, List.append_assoc, List.singleton_append]
end Z

set_option Elab.async false
set_option linter.all false
set_option maxRecDepth 100000
set_option maxHeartbeats 2000000
/-! Z14: fractions in their lowest terms -/
namespace Z
open PySem PySem.Spec PyProof.Rows L2 RZ
abbrev fr (p : Int × Int) : D := .tup [.int p.1, .int p.2]
def Red (p : Int × Int) : Prop := 0 < p.2 ∧ Int.gcd p.1 p.2 = 1
def vl (p : Int × Int) : Rat := (p.1 : Rat) / (p.2 : Rat)
def sgn (t l : Int) : Int := if 0 < l then (Int.gcd t l : Int) else -(Int.gcd t l : Int)
def cutF (t l : Int) : Int × Int := (t.fdiv (sgn t l), l.fdiv (sgn t l))
theorem castn {a : Int} (h : a ≠ 0) : (a : Rat) ≠ 0 := fun e => h (by exact_mod_cast e)
theorem gcd_pos {t l : Int} (h : l ≠ 0) : 0 < Int.gcd t l := Int.gcd_pos_of_ne_zero_right t h
theorem sgn_ne {t l : Int} (h : l ≠ 0) : sgn t l ≠ 0 := by
  have := gcd_pos (t := t) h
  unfold sgn
  split <;> omega
theorem cut_ex (t l : Int) (h : l ≠ 0) : ∃ a b s : Int, s = sgn t l ∧ t = s * a ∧ l = s * b ∧ cutF t l = (a, b) ∧ 0 < b ∧ Int.gcd a b = 1 := by
  have hs := sgn_ne (t := t) h
  have hg := gcd_pos (t := t) h
  have d1 : sgn t l ∣ t := by
    unfold sgn
    split
    · exact Int.gcd_dvd_left t l
    · exact Int.neg_dvd.mpr (Int.gcd_dvd_left t l)
  have d2 : sgn t l ∣ l := by
    unfold sgn
    split
    · exact Int.gcd_dvd_right t l
    · exact Int.neg_dvd.mpr (Int.gcd_dvd_right t l)
  obtain ⟨a, ha⟩ := d1
  obtain ⟨b, hb⟩ := d2
  have ab : (sgn t l).natAbs = Int.gcd t l := by
    unfold sgn
    split <;> omega
  refine ⟨a, b, sgn t l, rfl, ha, hb, ?_, ?_, ?_⟩
  · unfold cutF
    have e1 : t.fdiv (sgn t l) = a := by
      conv => lhs; arg 1; rw [ha]
      exact Int.mul_fdiv_cancel_left a hs
    have e2 : l.fdiv (sgn t l) = b := by
      conv => lhs; arg 1; rw [hb]
      exact Int.mul_fdiv_cancel_left b hs
    rw [e1, e2]
  · by_cases hl : 0 < l
    · have hs2 : 0 < sgn t l := by
        unfold sgn
        rw [if_pos hl]
        omega
      rw [hb] at hl
      have : ¬ b ≤ 0 := fun z => by
        have q := Int.mul_nonneg (Int.le_of_lt hs2) (show 0 ≤ -b by omega)
        rw [Int.mul_neg] at q
        omega
      omega
    · have hs2 : sgn t l < 0 := by
        unfold sgn
        rw [if_neg hl]
        omega
      have hl2 : sgn t l * b < 0 := by rw [← hb]; omega
      have : ¬ b ≤ 0 := fun z => by
        have := Int.mul_nonneg_of_nonpos_of_nonpos (Int.le_of_lt hs2) z
        omega
      omega
  · have e := Int.gcd_mul_left (sgn t l) a b
    rw [← ha, ← hb, ab] at e
    have e2 : Int.gcd t l * Int.gcd a b = Int.gcd t l * 1 := by omega
    exact Nat.eq_of_mul_eq_mul_left hg e2
theorem cut_red {t l : Int} (h : l ≠ 0) : Red (cutF t l) := by
  obtain ⟨a, b, s, _, _, _, e, h1, h2⟩ := cut_ex t l h
  rw [e]
  exact ⟨h1, h2⟩
theorem cut_vl {t l : Int} (h : l ≠ 0) : vl (cutF t l) = (t : Rat) / (l : Rat) := by
  obtain ⟨a, b, s, _, h1, h2, e, h3, _⟩ := cut_ex t l h
  rw [e, h1, h2]
  have hs : s ≠ 0 := fun z => h (by rw [h2, z, Int.zero_mul])
  have q1 := castn hs
  have q2 := castn (show b ≠ 0 by omega)
  show (a : Rat) / (b : Rat) = _
  push_cast
  grind
theorem natAbs_le_mul {s a : Int} (hs : s ≠ 0) : a.natAbs ≤ (s * a).natAbs := by
  rw [Int.natAbs_mul]
  exact Nat.le_mul_of_pos_left _ (by omega)
theorem cut_bt {t l : Int} {k : Nat} (h : l ≠ 0) (ht : Bt k t) (hl : Bt k l) : Bt k (cutF t l).1 ∧ Bt k (cutF t l).2 := by
  obtain ⟨a, b, s, _, h1, h2, e, h3, _⟩ := cut_ex t l h
  have hs : s ≠ 0 := fun z => h (by rw [h2, z, Int.zero_mul])
  rw [e]
  have q1 := natAbs_le_mul (a := a) hs
  have q2 := natAbs_le_mul (a := b) hs
  rw [← h1] at q1
  rw [← h2] at q2
  exact ⟨Nat.lt_of_le_of_lt q1 ht, Nat.lt_of_le_of_lt q2 hl⟩
theorem sgn_bt {t l : Int} {k : Nat} (h : l ≠ 0) (hl : Bt k l) : Bt k (sgn t l) := by
  have h1 : (sgn t l).natAbs = Int.gcd t l := by
    unfold sgn
    split <;> omega
  have h2 := Int.gcd_le_natAbs_right t h
  unfold Bt at *
  omega
/-- a fraction in its lowest terms is told by its worth -/
theorem red_eq {p q : Int × Int} (hp : Red p) (hq : Red q) (h : vl p = vl q) : p = q := by
  obtain ⟨a, b⟩ := p
  obtain ⟨c, d⟩ := q
  obtain ⟨hb, g1⟩ := hp
  obtain ⟨hd, g2⟩ := hq
  simp only at hb hd g1 g2
  have q1 := castn (show b ≠ 0 by omega)
  have q2 := castn (show d ≠ 0 by omega)
  have e : (a : Rat) / (b : Rat) = (c : Rat) / (d : Rat) := h
  have e2 : (a : Rat) * d = c * b := by grind
  have e3 : a * d = c * b := by exact_mod_cast e2
  have n1 : a.natAbs * d.natAbs = c.natAbs * b.natAbs := by rw [← Int.natAbs_mul, ← Int.natAbs_mul, e3]
  have c1 : Nat.Coprime b.natAbs a.natAbs := by
    have : Nat.gcd b.natAbs a.natAbs = Nat.gcd a.natAbs b.natAbs := Nat.gcd_comm _ _
    unfold Nat.Coprime
    rw [this]
    exact g1
  have c2 : Nat.Coprime d.natAbs c.natAbs := by
    have : Nat.gcd d.natAbs c.natAbs = Nat.gcd c.natAbs d.natAbs := Nat.gcd_comm _ _
    unfold Nat.Coprime
    rw [this]
    exact g2
  have d1 : b.natAbs ∣ d.natAbs := Nat.Coprime.dvd_of_dvd_mul_left c1 ⟨c.natAbs, by rw [n1, Nat.mul_comm]⟩
  have d2 : d.natAbs ∣ b.natAbs := Nat.Coprime.dvd_of_dvd_mul_left c2 ⟨a.natAbs, by rw [← n1, Nat.mul_comm]⟩
  have ed := Nat.dvd_antisymm d1 d2
  have bd : b = d := by omega
  subst bd
  have ac : a = c := Int.eq_of_mul_eq_mul_right (by omega) e3
  rw [ac]
/-! ### sums -/
def Fk (k : Nat) (p : Int × Int) : Prop := Red p ∧ Bt k p.1 ∧ Bt k p.2
theorem Fk.mono {j k : Nat} {p : Int × Int} (h : Fk j p) (e : j ≤ k) : Fk k p := ⟨h.1, h.2.1.mono e, h.2.2.mono e⟩
theorem Red.ne {p : Int × Int} (h : Red p) : p.2 ≠ 0 := by have := h.1; omega
def tmF (p q : Int × Int) : Int × Int := cutF (p.1 * q.1) (p.2 * q.2)
def plF (p q : Int × Int) : Int × Int := cutF (p.1 * q.2 + q.1 * p.2) (p.2 * q.2)
theorem tm_ok {j k : Nat} {p q : Int × Int} (hp : Fk j p) (hq : Fk k q) : Fk (j + k) (tmF p q) ∧ vl (tmF p q) = vl p * vl q := by
  have n1 := hp.1.ne
  have n2 := hq.1.ne
  have n3 : p.2 * q.2 ≠ 0 := Int.mul_ne_zero n1 n2
  refine ⟨⟨cut_red n3, cut_bt n3 (hp.2.1.mul hq.2.1) (hp.2.2.mul hq.2.2)⟩, ?_⟩
  rw [tmF, cut_vl n3]
  have q1 := castn n1
  have q2 := castn n2
  unfold vl
  push_cast
  grind
theorem pl_ok {j k : Nat} {p q : Int × Int} (hp : Fk j p) (hq : Fk k q) : Fk (j + k + 1) (plF p q) ∧ vl (plF p q) = vl p + vl q := by
  have n1 := hp.1.ne
  have n2 := hq.1.ne
  have n3 : p.2 * q.2 ≠ 0 := Int.mul_ne_zero n1 n2
  have b1 := (hp.2.1.mul hq.2.2).add (hq.2.1.mul hp.2.2)
  refine ⟨⟨cut_red n3, cut_bt n3 (b1.mono (by omega)) ((hp.2.2.mul hq.2.2).mono (by omega))⟩, ?_⟩
  rw [plF, cut_vl n3]
  have q1 := castn n1
  have q2 := castn n2
  unfold vl
  push_cast
  grind
/-- the worth of a sum with weights -/
def wsum : List (Int × Int) → List (Int × Int) → Rat
  | f :: fs, w :: ws => vl f * vl w + wsum fs ws
  | _, _ => 0
def wF : Int × Int → List (Int × Int) → List (Int × Int) → Int × Int
  | p, f :: fs, w :: ws => wF (plF p (tmF f w)) fs ws
  | p, _, _ => p
theorem wF_ok {c : Nat} : ∀ (fs ws : List (Int × Int)) (p : Int × Int) (k : Nat), Fk k p → (∀ f ∈ fs, Fk c f) → (∀ w ∈ ws, Fk c w) → Fk (k + fs.length * (2 * c + 1)) (wF p fs ws) ∧ vl (wF p fs ws) = vl p + wsum fs ws
  | [], ws, p, k, hp, _, _ => ⟨hp.mono (by simp), by simp [wF, wsum, Rat.add_zero]⟩
  | f :: fs, [], p, k, hp, _, _ => ⟨hp.mono (by simp), by simp [wF, wsum, Rat.add_zero]⟩
  | f :: fs, w :: ws, p, k, hp, hf, hw => by
    obtain ⟨t1, t2⟩ := tm_ok (hf f (List.mem_cons_self ..)) (hw w (List.mem_cons_self ..))
    obtain ⟨p1, p2⟩ := pl_ok hp t1
    obtain ⟨r1, r2⟩ := wF_ok fs ws _ _ p1 (fun x hx => hf x (List.mem_cons_of_mem _ hx)) (fun x hx => hw x (List.mem_cons_of_mem _ hx))
    refine ⟨r1.mono ?_, ?_⟩
    · have e : (fs.length + 1) * (2 * c + 1) = fs.length * (2 * c + 1) + (2 * c + 1) := Nat.succ_mul _ _
      rw [List.length_cons, e]
      omega
    · show vl (wF (plF p (tmF f w)) fs ws) = _
      rw [r2, p2, t2]
      show _ = vl p + (vl f * vl w + wsum fs ws)
      grind
theorem wsum_comm : ∀ (fs ws : List (Int × Int)), wsum fs ws = wsum ws fs
  | [], [] => rfl
  | [], _ :: _ => rfl
  | _ :: _, [] => rfl
  | f :: fs, w :: ws => by
    show vl f * vl w + wsum fs ws = vl w * vl f + wsum ws fs
    rw [wsum_comm fs ws, Rat.mul_comm]
theorem fk1 : Fk 2 (1, 1) := ⟨⟨by decide, by decide⟩, Bt.lit (by decide), Bt.lit (by decide)⟩
theorem fk0 : Fk 2 (0, 1) := ⟨⟨by decide, by decide⟩, Bt.lit (by decide), Bt.lit (by decide)⟩
theorem vl1 : vl (1, 1) = 1 := by decide +kernel
theorem vl0 : vl (0, 1) = 0 := by decide +kernel
end Z

set_option Elab.async false
set_option linter.all false
set_option maxRecDepth 100000
set_option maxHeartbeats 4000000
/-! Z15: an own error whose __init__ says super().__init__(value); self.value = value -/
namespace Z
open PySem PySem.Spec PyProof.Rows L2 RZ
/-- what the written part says of the class C whose __init__ is D's -/
structure InC (K : PySem.W.Frag) (D C : Addr) : Prop where
  T : OexC K C
  sub : PySem.W.mroIn K C (.ref D) = some true
  sup : PySem.W.ks_superIn K C D "__init__" = some (some (.builtin "ValueError.__init__"))
  ve : PySem.W.subIn K (.ref C) (.type "ValueError") = some true
  ini : PySem.W.excInitIn K C [.type "ValueError", .type "Exception", .type "BaseException", .type "object"] "ValueError.__new__" = true
  no : PySem.W.findIn K (.ref C) "value" = some none
abbrev iEnv (q : Str) (scope : Scope) (L f cda cc : Addr) : Env := PySem.W.ksEnv q scope L f (.ref cda) cc
abbrev iBody (p1 p2 p3 p4 p5 p6 q1 q2 q3 q4 : Pos) : List Stmt := [.Expr (.Call (.Attribute (.Call (.Name "super" p1) [] [] p2) "__init__" p3) [.Name "value" p4] [] p5) p6, .Assign [.Attribute (.Name "self" q1) "value" q2] (.Name "value" q3) q4]
def iCx (CX : CXT) (P : Program) (w : World) (K : PySem.W.Frag) (mg : Str → Option Value) (base : Heap) (q : Str) (scope : Scope) (f cda cc : Addr) (A : Around) (outer : List Env) (s : Shared) (H : Hp) (E : XK) : Cx where
  prog := P
  w := w
  K := K
  mg := mg
  base := base
  A := A.deeper (iEnv q scope s.heap.objs.size f cda cc)
  N := ["self", "value"]
  s_0 := s
  H_0 := H
  env := iEnv q scope s.heap.objs.size f cda cc
  outer := outer
  stack := iEnv q scope s.heap.objs.size f cda cc :: outer
  ex := []
  fn := fun _ => false
  calm := true
  pn := []
  xe := fun e s' => wpAny (model P w) (A.deeper (iEnv q scope s.heap.objs.size f cda cc)) (leaving (iEnv q scope s.heap.objs.size f cda cc) e) (fun _ s'' => CX outer H s E e s'') (fun e' s'' => CX outer H s E e' s'') s'
/-- the def's scope -/
structure IScope (sc : Scope) : Prop where
  kind : sc.kind = .function
  co : sc.isCoroutine = false
  gen : sc.isGenerator = false
  nocell : ∀ x ∈ sc.names, x.2 ≠ .cell
  self : sc.names.lookup ("self" : Str) = some .local
  value : sc.names.lookup ("value" : Str) = some .local
  cls : sc.names.lookup ("__class__" : Str) = some .free
  sup : sc.names.lookup ("super" : Str) = some .globalImplicit
  free : ∀ x, sc.names.lookup x = some .free → x = "__class__"
  ncell : ∀ x, sc.names.lookup x ≠ some .cell
section
variable {P : Program} {w : World} {K : PySem.W.Frag} {mg : Str → Option Value} {base : Heap} {CX : CXT} {q : Str} {sc : Scope} {f cda cc D a C : Addr} {A : Around} {outer : List Env} {s : Shared} {H : Hp} {E : XK} {h1 : Heap} {u : Value} {v : V}
theorem i_start {tk : Nat} {cl : Value} {cld : Option Addr} {csl : Array (Option Value)} (e0 : Env0 P w K mg base A outer s H) (hd : A.handled = none) (S : IScope sc) (hcc : K.lookup cc = some ⟨cl, cld, .cell (some (.ref D)), csl⟩) (rv : RelV v u)
    (hns : h1.Ns s.heap.objs.size fun y => ([(("self" : Str), Value.ref a), (("value" : Str), u)]).reverse.lookup y) (kp : ∀ b o, s.heap.get? b = some o → h1.get? b = some o) :
    Inv (iCx CX P w K mg base q sc f cda cc A outer s H E) [] [some (.ref a), some v] H { s with heap := h1, toks := tk } := by
  have cm : ∀ y c, (iEnv q sc s.heap.objs.size f cda cc).cells.lookup y = some c → y = "__class__" ∧ c = cc := fun y c e => by
    have e : List.lookup y [(("__class__" : Str), cc)] = some c := e
    simp only [List.lookup] at e
    split at e
    · rename_i hb
      exact ⟨by simpa using hb, (Option.some.inj e).symm⟩
    · cases e
  have kb : base.get? cc = some ⟨cl, cld, .cell (some (.ref D)), csl⟩ := e0.mod.kin _ _ hcc
  have noA : ∀ b : Addr, b ∉ ([] : List Addr) := fun b z => nomatch z
  refine ⟨⟨e0.mod, S.kind, rfl, rfl, Nat.le_refl _, fun y z c e1 e2 => (cm y c e1).1.trans (cm z c e2).1.symm, fun y hy => ?_, fun y c z _ => ?_, fun _ => hd, Around.frames_deeper e0.frames, .inr ⟨rfl, rfl⟩, fun b z => absurd z (noA b), e0.bs, e0.bsz, fun b _ _ => noA b,
      fun b z => absurd z (noA b), e0.funs, e0.frf⟩,
    rfl, e0.bare, Un.kept kp, ⟨_, hns, fun i y x e1 e2 e3 => ?_⟩, fun y c e => ?_, e0.hok.fresh (Nat.le_refl _), fun y c e => ?_, fun q hq => absurd (show q ∈ ([] : List (Addr × Obj)) ++ [] from hq) (by simp), e0.hok.kept kp, rfl⟩
  · have hy : sc.names.lookup y = some .cell ∨ sc.names.lookup y = some .free := hy
    rcases hy with hy | hy
    · exact absurd hy (S.ncell y)
    · refine ⟨cc, ?_⟩
      rw [S.free y hy]
      rfl
  · have z : false = true := z
    cases z
  · have e1 : (["self", "value"] : List Str)[i]? = some y := e1
    have e2 : ([some (.ref a), some v] : List (Option V))[i]? = some (some x) := e2
    match i, e1, e2 with
    | 0, e1, e2 =>
      cases e1
      cases e2
      exact ⟨.ref a, rfl, .inl ⟨S.self, rfl⟩⟩
    | 1, e1, e2 =>
      cases e1
      cases e2
      exact ⟨u, rv, .inl ⟨S.value, rfl⟩⟩
    | i + 2, e1, _ => simp at e1
  · obtain ⟨_, rfl⟩ := cm y c e
    exact ⟨_, _, kp _ _ (e0.bs _ _ kb).1, rfl⟩
  · obtain ⟨_, rfl⟩ := cm y c e
    exact (e0.bs _ _ kb).2
end
/-- super().__init__ bound, called -/
theorem mw_call {X : Cx} {pins : List (Addr × Obj)} {σ : L2.St} {H : Hp} {s : Shared} {A : Around} {D C a u : Addr} {us : List Value} {Q : Value → Shared → Prop} {E : Value → Shared → Prop} (T : InC X.K D C) (I : Inv X pins σ H s) (e : H a = some (exo a C none)) (hu : s.heap.get? u = some (PySem.W.kxs_mw "ValueError.__init__" a)) (hl : us.length ≤ sizeLine)
    (h : ∀ s', Inv X pins σ H s' → Q .none s') : wpAny (model X.prog X.w) A (call (.ref u) us) Q E s := by
  obtain ⟨t1, hx⟩ := exo_at I.hok e
  obtain ⟨nm, N', qn, bs, bm, hdct, sn, sub, ab, col, dd, k0, k1, k2, k3, k5, hC, hT⟩ := PySem.W.excInit_of I.kIn T.ini
  have fin : ∀ h' : Heap, (∀ b o, b ≠ a → s.heap.get? b = some o → h'.get? b = some o) → h'.get? a = some (PySem.W.excObj C s.heap.objs.size none .none) → Q .none { s with heap := h' } := fun h' k z => by
    have J := I.write (t' := s.toks) (x := a) (e := a) (o := exo a C none) (by rw [e]; exact True.intro) (.inl rfl) k ⟨_, z⟩ (exo_ok z)
    have eu : upd H a (exo a C none) = H := by
      funext b
      by_cases hb : b = a
      · rw [hb, upd_same, e]
      · rw [upd_ne hb]
    rw [eu] at J
    exact h _ J
  obtain ⟨hp, g, d, tk, os⟩ := s
  refine wpAny_call (codeAny_of_tree ?_)
  show wpAny (model X.prog X.w) A.in1 (callAny (.ref u) ⟨us, []⟩) _ _ _
  simp only [callAny]
  refine wpAny_bind (wpAny_load hu ?_)
  have c1 : (Value.type "method-wrapper" == Value.type "method" || Value.type "method-wrapper" == Value.type "builtin_function_or_method" || Value.type "method-wrapper" == Value.type "method-wrapper") = true := by decide
  simp only [PySem.W.kxs_mw, c1, if_true]
  refine PySem.W.KFB.if_so (by decide) (wpAny_bind (PySem.W.check_bound_init F.excBase_ValueError.toExcCallFacts hC hx rfl (wpAny_bind (wpAny_pure (wpAny_pure ?_)))))
  refine ⟨plainId_quiet F.excBase_ValueError.init.plain _, codeAny_builtin F.excBase_ValueError.initEntry ?_⟩
  exact PySem.W.exc_init_tree (cls := .ref C) (t0 := t1) (dv := none) (c2 := .none) (c3 := .none) (b4 := .bool false) hx hl fun h' k z _ => fin h' k z
def spIni (K : PySem.W.Frag) (D : Addr) : Sp := fun vs H Q _ => ∃ (a C : Addr) (v : V), vs = [.ref a, v] ∧ InC K D C ∧ H a = some (exo a C none) ∧ ∀ dx, H dx = none → dx ≠ a → Q .non (upd (upd H dx (exd dx [(("value" : Str), v)])) a (exo a C (some dx)))
section
variable {P : Program} {w : World} {K : PySem.W.Frag} {mg : Str → Option Value} {base : Heap} {CX : CXT} {q nm : Str} {sc : Scope} {f cda cc D : Addr} {params : Arguments} {dV kV doc pm ct oc ccl cl : Value} {an od cdd cld : Option Addr} {osl ccs csl : Array (Option Value)} {vs0 : Array Value} {file : Str} {tf : Tok} {cdD : ClassData} {ar : Arg} {p1 p2 p3 p4 p5 p6 q1 q2 q3 q4 : Pos}
theorem ini_ok (S : IScope sc) (lk : K.lookup f = some ⟨oc, od, .func (PySem.W.ksFn nm q params (iBody p1 p2 p3 p4 p5 p6 q1 q2 q3 q4) sc dV kV doc pm an (.ref cda) ct cc), osl⟩) (hcd : PySem.W.codeIn K (.ref cda) q = true)
    (hp : (params.posonlyargs ++ params.args).head? = some ar) (har : ar.arg = "self") (hcode : K.lookup cda = some ⟨ccl, cdd, .fields vs0, ccs⟩) (hvs : vs0[2]? = some (.str file tf)) (hfile : ((P.main.file : Str) == file) = true)
    (hcc : K.lookup cc = some ⟨cl, cld, .cell (some (.ref D)), csl⟩) (hD : PySem.W.clsIn K D = some cdD) (hsup : mg "super" = none) (htop : (P.main.scope.names.lookup ("super" : Str)).isSome = false) (ho : PySem.W.nsIn K cStatics "thirdparty.any" = some none)
    {pl : Sem Bool} (hev : ∀ env, eval (.Call (.Attribute (.Call (.Name "super" p1) [] [] p2) "__init__" p3) [.Name "value" p4] [] p5) env = (do
      let ov ← attributeBase (.Call (.Name "super" p1) [] [] p2) "__init__" env (eval (.Call (.Name "super" p1) [] [] p2) env)
      standAt p3.atName
      let (f, first) ← holding [ov] (getMethod ov "__init__" pl)
      callWith p5 f first (backTo p5 (starEach [.Name "value" p4] env)) []))
    (hsw : ∀ env, swapsWith (.Call (.Attribute (.Call (.Name "super" p1) [] [] p2) "__init__" p3) [.Name "value" p4] [] p5) none p6.line env = pure false) :
    FnOk P w K mg base CX 1 f (PySem.W.ksFn nm q params (iBody p1 p2 p3 p4 p5 p6 q1 q2 q3 q4) sc dV kV doc pm an (.ref cda) ct cc) ["self", "value"] (spIni K D) := by
  refine ⟨fun vs H Q E h => ?_, fun A outer s H args us vs Q E hr e0 bd r h => ?_⟩
  · obtain ⟨_, _, _, rfl, _⟩ := h
    rfl
  obtain ⟨a, C, v, rfl, T, ha, hq⟩ := h
  cases r with
  | cons ra r =>
  cases r with
  | cons rv r =>
  cases r
  rename_i u0 u
  obtain rfl : u0 = Value.ref a := ra
  have ki : K.In s.heap := e0.mod.kin.keeps fun b o e => (e0.bs b o e).1
  have nol : s.heap.NoLimit := e0.mod.nolimit.keeps fun b o e => (e0.bs b o e).1
  have hloc : ∀ x ∈ [(("self" : Str), Value.ref a), (("value" : Str), u)], sc.names.lookup x.1 = some .local := fun x hx => by
    simp only [List.mem_cons, List.not_mem_nil, or_false] at hx
    rcases hx with rfl | rfl
    · exact S.self
    · exact S.value
  refine PySem.ks_codeAny_call_defAt (binds := [(("self" : Str), Value.ref a), (("value" : Str), u)]) hr.depth (ki _ _ lk) rfl nol (PySem.W.codeRec_of ki hcd) rfl bd S.nocell hloc (fun h1 hns kp => ?_) S.co S.gen S.kind
  have I : Inv (iCx CX P w K mg base q sc f cda cc A outer s H E) [] [some (.ref a), some v] H { s with heap := h1, toks := s.toks + 2 } := i_start e0 hr.hd S hcc rv hns kp
  obtain ⟨mb, mb1, mb2⟩ := I.mod.blt
  obtain ⟨oD, hD1, hD2⟩ : ∃ oD, h1.get? D = some oD ∧ oD.data = .cls cdD := by
    have X : K.In h1 := I.kIn
    unfold PySem.W.clsIn at hD
    split at hD
    · rename_i c d cd' sl ho
      cases hD
      exact ⟨_, X _ _ ho, rfl⟩
    · cases hD
  obtain ⟨t1, hx⟩ := exo_at I.hok ha
  refine PySem.ks_wpAt_execs_cons (PySem.ks_wpAt_Expr_any (PySem.ks_wpAt_MethodCall (PySem.ks_wpAt_super_base (env := iEnv q sc s.heap.objs.size f cda cc) S.sup S.cls rfl rfl (I.kIn _ _ lk) rfl hp rfl (I.kIn _ _ hcode) rfl hvs hfile htop ?_) (hev _)) I.quiet (hsw _))
  refine PySem.W.ks_loadName_global S.kind S.sup (Calls.loadGlobal_builtin (env := iEnv q sc s.heap.objs.size f cda cc) (I.mod.glob.keeps I.bk) hsup (mb1.keeps I.bk) ((mb2 _ (by decide +kernel)).trans (by rfl)) ⟨rfl, ?_⟩)
  refine wpAny_loadName_free S.kind S.cls rfl ⟨_, I.kIn _ _ hcc, rfl⟩ ?_
  rw [har]
  refine wpAny_loadName_local S.kind S.self hns rfl ?_
  refine PySem.ks_wpAny_isType_cls hD1 hD2 ⟨rfl, ?_⟩
  refine PySem.ks_wpAny_call_super hD1 hD2 hx rfl (fun c e => by cases e) (PySem.W.looks_mroIn I.kIn T.sub) (fun h2 es k2 => ?_)
  have I2 := I.kept (t' := s.toks + 2) k2
  have hx2 := k2 _ _ hx
  have ia : PySem.W.InstAt h2 a _ C none := ⟨hx2, rfl, rfl, trivial⟩
  have hsu := T.sup
  unfold PySem.W.ks_superIn at hsu
  cases hc : PySem.W.clsIn K C with
  | none => rw [hc] at hsu; cases hsu
  | some cd =>
  rw [hc] at hsu
  refine PySem.W.kxs_getMethod PySem.W.kxs_ValueError es (PySem.W.looks_opaque I2.kIn ho) (l₀ := cd.mro) (fun A Q E s k q => wpAny_bind ((PySem.W.looks_clsIn I2.kIn hc) A _ E s k (wpAny_pure q))) rfl I2.kIn hsu (ia.type.andThen (PySem.W.looks_subIn I2.kIn T.ve)) (PySem.W.ks_ne I2.kIn ia hc) (by decide) ?_
  have I3 := I2.kept (t' := s.toks + 2 + 1) (h' := h2.push (PySem.W.kxs_mw "ValueError.__init__" a)) fun b o e => Heap.get?_push_of_some _ e
  have ge : (h2.push (PySem.W.kxs_mw "ValueError.__init__" a)).get? h2.objs.size = some (PySem.W.kxs_mw "ValueError.__init__" a) := Heap.get?_push_at rfl rfl
  have I3 := I3.pins_of (pins' := [(h2.objs.size, PySem.W.kxs_mw "ValueError.__init__" a)]) fun p hp => by
    rw [List.mem_singleton.mp hp]
    exact ⟨ge, I2.hok.fresh (Nat.le_refl _), Nat.ne_of_gt I2.lt, I2.nofs (Nat.le_refl _), fun v z => by cases z⟩
  have hpa : PA (iCx CX P w K mg base q sc f cda cc A outer s H E) [.Name "value" p4] (tCons (tVar 1) tNil) := pa_cons (pe_var (i := 1) rfl (.inl S.value)) pa_nil
  refine PySem.W.kxs_callWith (i := "ValueError.__init__") (x := a) rfl (Calls.evalArgs_plain (wpAny_mono (hpa.run p5 [(h2.objs.size, PySem.W.kxs_mw "ValueError.__init__" a)] _ _ _ (fun vs H1 => vs = [v] ∧ H1 = H) I3 ⟨v, rfl, rfl, rfl⟩) (fun us s4 hu => ?_) fun _ _ z => z))
  obtain ⟨vs, H4, I4, r4, rfl, rfl⟩ := hu
  have ge4 := (I4.pin (h2.objs.size, PySem.W.kxs_mw "ValueError.__init__" a) (List.mem_append_right _ (List.mem_singleton.mpr rfl))).1
  have I4 := I4.pins_of (pins' := []) fun p hp => nomatch hp
  refine ⟨ge4, mw_call T I4 ha ge4 (by show us.length ≤ sizeLine; rw [← Paired.length r4]; exact Nat.le_trans (show 1 ≤ 1000 by decide) (by decide)) fun s5 I5 => ?_⟩
  refine wpAt_of_wpAny (wpAny_mono ((pss_one (ps_ost (pe_var (i := 0) rfl (.inl S.self)) (pe_var (i := 1) rfl (.inl S.value)))).run [] s5 _ _ { nx := fun _ H' => Q .non H', rt := Q } I5 ?_) (fun fl s6 h6 => ?_) fun _ _ z => z)
  · exact ⟨v, rfl, .ref a, rfl, a, C, rfl, T.T, T.no, .inl ⟨ha, fun dx n ne => hq dx n ne⟩⟩
  · cases fl with
    | next => obtain ⟨σ', H', J, q'⟩ := h6; exact ⟨.non, H', J.os, J.bare, J.base, J.hok, rfl, q'⟩
    | ret u => obtain ⟨x, σ', H', J, rx, q'⟩ := h6; exact ⟨x, H', J.os, J.bare, J.base, J.hok, rx, q'⟩
    | brk => exact h6.elim fun _ h6 => h6.elim fun _ h6 => h6.2.elim
    | cont => exact h6.elim fun _ h6 => h6.elim fun _ h6 => h6.2.elim
end
end Z

set_option Elab.async false
set_option linter.all false
set_option maxRecDepth 100000
set_option maxHeartbeats 4000000
/-! Z16: raise -/
namespace Z
open PySem PySem.Spec PyProof.Rows L2 RZ
/-- the error class that the module's name x stands for; c: its number -/
structure Erc (Γ : Gm) (P : Program) (w : World) (mg : Str → Option Value) (base : Heap) (x : Str) (c : Nat) : Prop where
  at_ : mg x = some (.ref (Γ.cls c))
  ex : ∃ D fI fd, InC Γ.K D (Γ.cls c) ∧ PySem.W.findIn Γ.K (.ref (Γ.cls c)) "__init__" = some (some (.ref fI)) ∧ PySem.W.typeIn Γ.K (.ref fI) = some (.type "function") ∧ FnOk P w Γ.K mg base (L2.CX P w) 1 fI fd ["self", "value"] (spIni Γ.K D) ∧ Binds Γ.K fd ["self", "value"] []
section
variable {Γ : Gm} {B : Bs} {W : WX} {X : Cx} {σ : L2.St} {H : Hp} {z : Fz} {m : M} {x : Str} {p pos pos2 : Pos} {e : Expr} {f : Den} {c : Nat}
def zraise (c : Nat) (f : Den) : DenS := fun m => (f m).thenS fun d m1 => .exc c d m1
theorem del_upd {H1 : Hp} {a dx : Addr} {o1 o2 o3 o4 : HO} (h : H1 a = none) (ne : dx ≠ a) : upd (del (upd (upd (upd H1 a o1) dx o2) a o3) a) dx o4 = upd H1 dx o4 := by
  funext b
  by_cases hb : b = dx
  · rw [hb, upd_same, upd_same]
  · rw [upd_ne hb, upd_ne hb]
    by_cases ha : b = a
    · rw [ha, del_same, h]
    · rw [del_ne ha, upd_ne ha, upd_ne hb, upd_ne ha]
theorem mk_conv {C D : Addr} {Q : XK} (T : InC Γ.K D C) (h : tE Γ B W f σ H fun v H1 => ∀ dx, H1 dx = none → Q (.ref C) (some dx) (upd H1 dx (.xd [(("value" : Str), v)]))) : tMkO C (spIni Γ.K D) [] (tCons (tE Γ B W f) tNil) σ H Q := by
  obtain ⟨m, z, rl, h⟩ := h
  refine ⟨m, z, rl, ?_⟩
  have key : ∀ (v : V) (H1 : Hp), (∀ dx, H1 dx = none → Q (.ref C) (some dx) (upd H1 dx (.xd [(("value" : Str), v)]))) → (fun (vs : List V) H1 => vs.length ≤ 1000 ∧ ∀ a, H1 a = none → spIni Γ.K D (.ref a :: (vs ++ [])) (upd H1 a (exo a C none))
      (fun v H2 => v = .non ∧ ∃ (d : Addr) (fs : List (Str × V)), H2 a = some (exo a C (some d)) ∧ H2 d = some (exd d fs) ∧ H1 d = none ∧ Q (.ref C) (some d) (upd (del H2 a) d (.xd fs))) (fun _ _ _ => False)) [v] H1 := fun v H1 q => by
    refine ⟨(by show 1 ≤ 1000; decide), fun a ha => ⟨a, C, v, rfl, T, upd_same, fun dx hn ne => ⟨rfl, dx, [(("value" : Str), v)], upd_same, ?_, ?_, ?_⟩⟩⟩
    · rw [upd_ne ne, upd_same]
    · rw [upd_ne ne] at hn
      exact hn
    · rw [upd_ne ne] at hn
      rw [del_upd ha ne]
      exact q dx hn
  cases e0 : f m with
  | bad => rw [e0] at h; exact h
  | exc c d m1 => rw [e0] at h; exact h
  | ok d m1 =>
    rw [e0] at h
    exact fun z1 v H1 x1 r1 p1 => key v H1 (h z1 v H1 x1 r1 p1)
theorem z_raise (Er : Erc Γ X.prog X.w X.mg X.base x c) (hK : X.K = Γ.K) (hc : X.calm = true) (hr : Room 2 X.A) (tk : Takes X W) (hg : Gl X x) (ha : PE X e (tE Γ B W f)) (hdb : (x == ("__debug__" : Str)) = false) (he : starEach [e] X.env = (false, eval e X.env) :: starEach [] X.env) (hpl : (backTo pos (starEach [] X.env)).any (·.1) = false) :
    PS X (.Raise (some (.Call (.Name x p) [e] [] pos)) none pos2) (tS Γ B W (zraise c f)) := by
  obtain ⟨D, fI, fd, T, i1, i2, F, b⟩ := Er.ex
  have T' : OexC X.K (Γ.cls c) := hK ▸ T.T
  rw [← hK] at i1 i2 F b
  have hm := pmk_oex (X := X) (p := p) (pos := pos) T' i1 i2 F hr b .nil passL hg Er.at_ (pa_cons ha pa_nil he) hdb he hpl
  refine PS.imp (ps_raise hc tk hm) fun E σ H ⟨m, z, rl, h⟩ => ?_
  rw [hK]
  refine mk_conv T ⟨m, z, rl, ?_⟩
  have h : PoS Γ B W E z ((f m).thenS fun d m1 => RS.exc c d m1) := h
  cases e0 : f m with
  | bad => rw [e0] at h; exact h
  | exc c d m1 => rw [e0] at h; exact fun z' dx u H' x1 r1 g1 p1 => h z' dx u σ H' x1 r1 g1 p1
  | ok d m1 =>
    rw [e0] at h
    refine fun z1 v H1 x1 r1 p1 dx hn => h (z1.add dx (.xd [(("value" : Str), v)])) dx v σ _ (x1.trans (ext_add (r1.rf.gnone hn))) (r1.grow hn) ?_ (Rep.mono (ext_add (r1.rf.gnone hn)) d p1)
    show upd z1.G dx _ dx = _
    exact upd_same
end
end Z

set_option Elab.async false
set_option linter.all false
set_option maxRecDepth 100000
set_option maxHeartbeats 4000000
/-! Z17: a caught error stays known behind its suite -/
namespace Z
open PySem PySem.Spec PyProof.Rows L2 RZ
section
variable {X : Cx} {pins : List (Addr × Obj)} {σ : L2.St} {H : Hp} {s : Shared}
/-- an object that is there is tracked from now on -/
theorem track {a : Addr} {φ : Heap → Prop} (J : Inv X pins σ H s) (h0 : X.s_0.heap.get? a = none) (hn : H a = none) (new : ObjOk X.prog X.w (upd H a (.ext φ)) s.heap a (.ext φ)) (nL : a ≠ X.env.locals) (nC : ∀ x c, X.env.cells.lookup x = some c → c ≠ a) (nP : ∀ p ∈ X.pn ++ pins, p.1 ≠ a) : Inv X pins σ (upd H a (.ext φ)) s := by
  refine ⟨J.ok, J.os, J.bare, ⟨J.base.keep, J.base.slot, fun b o e n hx => ?_, J.base.there, fun b xs e => ?_, fun b o xs e => ?_, fun b ps e => ?_⟩, J.loc, J.cell, ?_, fun x c e => ?_, fun p hp => ?_, J.hok.laidN (fun _ _ z => z) hn new, J.len⟩
  · rw [upd_ne (fun z => by rw [z, h0] at e; cases e)]
    exact J.base.free b o e n hx
  · have q := J.base.tups b xs e
    rw [upd_ne (ne_of_none q hn)]
    exact q
  · have q := J.base.frzs b o xs e
    rw [upd_ne (ne_of_none q hn)]
    exact q
  · obtain ⟨more, q⟩ := J.base.tbls b ps e
    exact ⟨more, by rw [upd_ne (ne_of_none q hn)]; exact q⟩
  · rw [upd_ne (Ne.symm nL)]
    exact J.free
  · rw [upd_ne (nC x c e)]
    exact J.freeC x c e
  · obtain ⟨k1, k2, k3⟩ := J.pin p hp
    exact ⟨k1, by rw [upd_ne (nP p hp)]; exact k2, k3⟩
end
/-- what 'except x as n' wishes, the caught object known behind the suite -/
def wAsT (K : PySem.W.Frag) (c : Value) (i : Nat) (ts : Addr → Value → Option Addr → TS) (Wo : WX) (E : Ends) : WX := fun cls d σ H =>
  ∃ b, PySem.W.exmOne K cls c = some b ∧ (b = true → ∃ C dx, cls = .ref C ∧ d = some dx ∧ ∀ a, H a = none → ts a cls d { nx := fun σ' H' => H' a = none → E.nx (σ'.set i none) (upd H' a (ErO C dx a)), rt := fun _ _ => False, bk := fun _ _ => False, ct := fun _ _ => False } (σ.set i (some (.ref a))) H) ∧
    (b = false → Wo cls d σ H)
section
variable {X : Cx} {x n : Str} {c : Value} {i : Nat} {body suite : List Stmt} {b0 : Stmt} {np pos pos2 : Pos} {tb : WX → TS} {ts : Addr → Value → Option Addr → TS} {Wo : WX}
theorem ps_tryT (hex : X.ex = []) (hs : X.stack = X.env :: X.outer) (hf : X.env.frame = some X.env.locals) (hN : X.N.Nodup) (hi : X.N[i]? = some n) (hln : X.env.kindOf n = some .local) (hc : Names X x c) (tk : Takes X Wo)
    (hb : ∀ (W : WX) (pn : List (Addr × Obj)) (xe : Value → Shared → Prop), Takes (X.tr pn xe) W → PassesOwn (model X.prog X.w) X.A X.env xe → PSs (X.tr pn xe) body (tb W))
    (hsu : ∀ (a : Addr) (oe : Obj) (cls : Value) (d : Option Addr) (pn : List (Addr × Obj)), Zc cls d oe → (∃ vs, oe.data = .fields vs) → PSs (X.suite a ((a, oe) :: pn)) (b0 :: suite) (ts a cls d)) :
    PS X (.Try body [.ExceptHandler (some (.Name x np)) (some n) (b0 :: suite) pos2] [] [] pos) (fun E σ H => tb (wAsT X.K c i ts Wo E) E σ H) := by
  refine ⟨fun pins s σ H E I h => ?_⟩
  have okX := I.ok
  have fr : X.A.frames = some (X.env :: X.outer) := by rw [okX.frames, hs]
  have lcn : L2.Loc X.env.scope n := .inl hln
  refine wpAny_Try_except (wpAny_mono ((hb (wAsT X.K c i ts Wo E) (X.pn ++ pins) (fun e t1 => wpAny (model X.prog X.w) X.A (noteFrame e X.env) (fun _ t2 => wpAny (model X.prog X.w) X.A (setFlight e none) (fun _ t3 =>
    wpAny (model X.prog X.w) X.A (handleBy e X.env [.ExceptHandler (some (.Name x np)) (some n) (b0 :: suite) pos2]) (SP X pins E) X.xe t3) X.xe t2) X.xe t1) (fun u t xx => ?_) PassesOwn.looking).run [] s σ H E (I.toTry _) h) (fun f s1 hsp => ?_) (fun e s1 he => he))
  · obtain ⟨a, G, sI, pin2, σ2, H2, cls, d, rfl, J0, nb, up, sky, na, os, ag, b, hb1, hyes, hno⟩ := xx
    have J : Inv X pins σ2 H2 sI := J0.ofTry okX
    have sky2 : Sky G (X.env :: X.outer) a (Zc cls d) X.env.locals t.heap := by rw [← hs]; exact sky
    show wpAny (model X.prog X.w) X.A (noteFrame (.ref a) X.env) _ _ _
    refine Sky.land Zc.steady fr hf sky2 fun g3 fl3 up3 => ?_
    have J3 : Inv X pins σ2 H2 { t with heap := g3 } := J.landed nb fl3.1 (up.trans up3) os ag
    obtain ⟨o3, v3, e3, z3, d3⟩ := fl3.there
    have nfr : a ∉ frs (X.env :: X.outer) := fun hm => by
      obtain ⟨_, o', e', hnf⟩ := fl3.2.2.1.mem hm
      rw [e3] at e'
      cases e'
      exact hnf _ d3
    have nL : a ≠ X.env.locals := fun q => nfr (List.mem_filterMap.mpr ⟨X.env, List.mem_cons_self, by rw [hf, q]⟩)
    have nF : a ∉ X.fs := fun hm => by
      obtain ⟨e, he, q⟩ := List.mem_filterMap.mp hm
      exact nfr (List.mem_filterMap.mpr ⟨e, List.mem_cons_of_mem _ he, q⟩)
    have nI : sI.heap.get? a = none := by
      cases q : sI.heap.get? a with
      | none => rfl
      | some o =>
        have z := nb a o q (by rw [hs]; exact nfr)
        rw [fl3.2.1] at z
        cases z
    have S3 := J3.suite e3 d3 na nL nF
    refine wpAny_handleBy_cons (codeAny_handlers_test ?_) (by intro q; cases q)
    have LT : PySem.W.Looks (model X.prog X.w) g3 (typeOf (.ref a)) cls := fun A Q E s k q => wpAny_typeOf_ref (k _ _ e3) (by rw [z3.1]; exact q)
    have LM := PySem.W.exm_one (M := model X.prog X.w) J3.kIn LT hb1
    have test : ∀ {Q : Value → Shared → Prop} {E : Value → Shared → Prop}, Q c { t with heap := g3 } → wpAny (model X.prog X.w) (X.A.mark (some (.ref a))) (eval (.Name x np) X.env) Q E { t with heap := g3 } := fun {Q E} q => by
      obtain ⟨hg, hdbg, hm | ⟨hm, hv, hnn⟩⟩ := hc
      · exact ld_glob (X := X.suite a ((a, o3) :: (X.pn ++ pins))) S3 hg hm q hdbg
      · exact ld_blt (X := X.suite a ((a, o3) :: (X.pn ++ pins))) S3 hg hm hv q hnn hdbg
    refine test (LM.here ?_)
    cases b with
    | true =>
      refine codeAny_handlers_suite_as (HandSPX.lands_againZ fl3 fun g4 fl4 up4 => ?_)
      have J4 : Inv X pins σ2 H2 { t with heap := g4 } := J.landed nb fl4.1 ((up.trans up3).trans up4) os ag
      obtain ⟨o4, v4, e4, z4, d4⟩ := fl4.there
      have S4 := J4.suite e4 d4 na nL nF
      obtain ⟨C, dx, rfl, rfl, hts⟩ := hyes rfl
      refine store_ok (X := X.suite a ((a, o4) :: (X.pn ++ pins))) (v := .ref a) S4 hN hi lcn rfl (fun s5 S5 => ?_) (.inr hln)
      refine wpAny_mono ((hsu a o4 _ _ (X.pn ++ pins) z4 ⟨_, d4⟩).run [] s5 _ H2 _ S5 (hts a na)) (fun f s6 hsp => ?_) (fun _ _ z => False.elim z)
      cases f with
      | next =>
        obtain ⟨σ6, H6, S6, q6⟩ := hsp
        have p6 := S6.pin (a, o4) (by show (a, o4) ∈ ((a, o4) :: (X.pn ++ pins)) ++ []; simp)
        have J6 : Inv X ((a, o4) :: pins) σ6 H6 s6 := (S6.unsuite okX).pins_of fun p hp => by
          rcases List.mem_cons.mp hp with e | hp
          · rw [e]; exact p6
          · exact (S6.unsuite (pins := pins) okX).pin p (List.mem_append_right _ hp)
        refine gone_ok J6 hN hi hln fun s7 J7 => ?_
        have p7 := J7.pin (a, o4) (List.mem_append_right _ (List.mem_cons_self ..))
        have J8 : Inv X pins (σ6.set i none) H6 s7 := J7.pins_of fun p hp => J7.pin p (List.mem_append_right _ (List.mem_cons_of_mem _ hp))
        refine ⟨_, _, track J8 ?_ p6.2.1 ⟨⟨o4, v4, p7.1, z4, d4⟩, ⟨_, p7.1⟩, fun _ _ ⟨o, v, q, r⟩ k => ⟨o, v, k o q, r⟩⟩ nL (fun y c' e => ?_) (fun p hp => ?_), q6 p6.2.1⟩
        · cases q : X.s_0.heap.get? a with
          | none => rfl
          | some o =>
            obtain ⟨o', q'⟩ := J.base.there a o q (by rw [hex]; exact fun z => nomatch z)
            rw [nI] at q'
            cases q'
        · intro z
          obtain ⟨v, o, ho, hd⟩ := J4.cell y c' e
          rw [z] at ho
          have ho : g4.get? a = some o := ho
          rw [e4] at ho
          cases ho
          rw [d4] at hd
          cases hd
        · intro z
          have q := (J.pin p hp).1
          rw [z, nI] at q
          cases q
      | brk => exact hsp.elim fun _ z => z.elim fun _ z => z.2.elim
      | cont => exact hsp.elim fun _ z => z.elim fun _ z => z.2.elim
      | ret u => obtain ⟨_, _, _, _, _, z⟩ := hsp; exact z.elim
    | false =>
      show wpAny _ X.A (handleBy (.ref a) X.env []) _ _ _
      refine wpAny_handleBy_nil ?_
      obtain ⟨k1, k2, k3, oe, vs, T, oT, ts', he, hz, hd, h1, hr⟩ := id fl3
      unfold PySem.passOn
      refine wpAny_bind (wpAny_field he hd h1 ?_)
      rw [if_neg (show ¬ ((Value.ref T == Value.none) = true) from by simp)]
      have fin : wpAny (model X.prog X.w) X.A (setFlight (.ref a) X.env.frame) (fun _ s4 => wpAny (model X.prog X.w) X.A (throw (.ref a) : Sem Flow) (SP X pins E) X.xe s4) X.xe { t with heap := g3 } := by
        rw [hf]
        refine HandSPX.setFlight_upZ fl3 fun g4 hh4 up4 => wpAny_throw (tk _ _ ?_)
        exact ⟨a, G, sI, pins, σ2, H2, cls, d, rfl, J, nb, (up.trans up3).trans up4, .inr (.inr (by rw [hs]; exact hh4)), na, os, ag, hno rfl⟩
      first
        | exact wpAny_bind (wpAny_pure (wpAny_bind fin))
        | exact wpAny_bind fin
  · cases f with
    | next => obtain ⟨σ', H', J', q⟩ := hsp; exact wpAny_execs_nil ⟨σ', H', J'.ofTry okX, q⟩
    | brk => obtain ⟨σ', H', J', q⟩ := hsp; exact ⟨σ', H', J'.ofTry okX, q⟩
    | cont => obtain ⟨σ', H', J', q⟩ := hsp; exact ⟨σ', H', J'.ofTry okX, q⟩
    | ret u => obtain ⟨v, σ', H', J', r, q⟩ := hsp; exact ⟨v, σ', H', J'.ofTry okX, r, q⟩
end
end Z

set_option Elab.async false
set_option linter.all false
set_option maxRecDepth 100000
set_option maxHeartbeats 4000000
/-! Z18: the head's facts of the error classes -/
namespace Z
open PySem PySem.Spec PyProof.Rows L2 RZ
abbrev IniW : Type := Option (Str × Str × Arguments × FuncBody × Scope × Addr × List Str × Addr)
abbrev fIni (K : PySem.W.Frag) : Addr := He.ma K (He.ga K "TieError") "__init__"
def iniW (K : PySem.W.Frag) : IniW := match K.lookup (fIni K) with
  | some ⟨_, _, .func g, _⟩ => some (g.name, g.qualname, g.params, g.body, g.scope, g.globals, g.closure.map (·.1), g.builtins)
  | _ => none
def iniB (K : PySem.W.Frag) (file : Str) : Bool := match K.lookup (fIni K) with
  | some ⟨_, _, .func g, _⟩ => PySem.W.codeIn K g.code "TieError.__init__" && ((match g.defaults with
    | .none => true
    | _ => false) && ((match g.closure with
    | [(_, cc)] => (match K.lookup cc with
      | some ⟨_, _, .cell (some (.ref D)), _⟩ => decide (D = He.ga K "TieError")
      | _ => false)
    | _ => false) && (match g.code with
    | .ref cda => (match K.lookup cda with
      | some ⟨_, _, .fields vs, _⟩ => (match (vs[2]? : Option Value) with
        | some (.str f _) => file == f
        | _ => false)
      | _ => false)
    | _ => false)))
  | _ => false
/-- what is read of the class C over the class D -/
def oexB (K : PySem.W.Frag) (C : Addr) : Bool := match K.lookup C with
  | some ⟨.type t, _, .cls cd, sl⟩ => decide (t = "type") && ((match cd.mro, sl.toList with
    | .ref C' :: bm, [_, _, _, _, some (.builtin n), _] => decide (C' = C) && (decide (n = "ValueError.__new__") && (!cd.hasDel && (cd.hasDict && PySem.HandSPX.refsVE bm)))
    | _, _ => false))
  | _ => false
theorem oexB_ok {K : PySem.W.Frag} {C : Addr} (h : oexB K C = true) : ∃ nm q N bs bm sn sub ab col dd k0 k1 k2 k3 k5, K.lookup C = some (excClassObj nm q C N bs bm true sn sub ab col dd k0 k1 k2 k3 k5 "ValueError.__new__") ∧ PySem.HandSPX.refsVE bm = true := by
  unfold oexB at h
  split at h
  · rename_i t dd cd sl ho
    simp only [Bool.and_eq_true, decide_eq_true_eq] at h
    obtain ⟨rfl, h⟩ := h
    split at h
    · rename_i C' bm k0 k1 k2 k3 n k5 hm hs
      simp only [Bool.and_eq_true, decide_eq_true_eq, Bool.not_eq_true'] at h
      obtain ⟨rfl, rfl, hdel, hdict, ht⟩ := h
      obtain ⟨nm, bs, mro, ns, qn, hd, sn, sub, ab, col, del⟩ := cd
      dsimp only at hm hdel hdict
      subst hm hdel hdict
      have hsl : sl = #[k0, k1, k2, k3, some (.builtin "ValueError.__new__"), k5] := by
        cases sl
        simp only at hs
        rw [hs]
      subst hsl
      exact ⟨nm, qn, ns, bs, bm, sn, sub, ab, col, dd, k0, k1, k2, k3, k5, ho, ht⟩
    · cases h
  · cases h
def errB (K : PySem.W.Frag) (D C : Addr) : Bool := oexB K C && (He.eqO (PySem.W.findIn K (.ref C) "__setattr__") (some (some (.builtin "object.__setattr__"))) && (decide (PySem.W.subIn K (.ref C) (.type "BaseException") = some true) && (decide (PySem.W.typeIn K (.ref C) = some (.type "type")) && (PySem.W.keepIn K (.ref C)
  && (decide (PySem.W.mroIn K C (.ref D) = some true) && (He.eqO (PySem.W.ks_superIn K C D "__init__") (some (some (.builtin "ValueError.__init__"))) && (decide (PySem.W.subIn K (.ref C) (.type "ValueError") = some true) && (PySem.W.excInitIn K C [.type "ValueError", .type "Exception", .type "BaseException", .type "object"] "ValueError.__new__"
  && (He.eqO (PySem.W.findIn K (.ref C) "value") (some none) && (He.eqO (PySem.W.findIn K (.ref C) "__init__") (some (some (.ref (He.ma K D "__init__")))) && decide (PySem.W.exmOne K (.ref C) (.ref D) = some true)))))))))))
structure ErrOk (K : PySem.W.Frag) (D C : Addr) : Prop where
  inC : InC K D C
  ini : PySem.W.findIn K (.ref C) "__init__" = some (some (.ref (He.ma K D "__init__")))
  exm : PySem.W.exmOne K (.ref C) (.ref D) = some true
theorem errB_ok {K : PySem.W.Frag} {D C : Addr} (h : errB K D C = true) : ErrOk K D C := by
  unfold errB at h
  simp only [Bool.and_eq_true, decide_eq_true_eq] at h
  obtain ⟨h1, h2, h3, h4, h5, h6, h7, h8, h9, h10, h11, h12⟩ := h
  exact ⟨⟨⟨oexB_ok h1, He.eqO_ok h2, h3, h4, h5⟩, h6, He.eqO_ok h7, h8, h9, He.eqO_ok h10⟩, He.eqO_ok h11, h12⟩
/-- all that is asked of the errors -/
def errsB (K : PySem.W.Frag) (file : Str) (ec : List Str) : Bool := iniB K file && (decide (PySem.W.typeIn K (.ref (fIni K)) = some (.type "function")) && ((PySem.W.clsIn K (He.ga K "TieError")).isSome && (He.eqO (PySem.W.nsIn K cStatics "thirdparty.any") (some none)
  && (He.eqO (PySem.W.nsIn K mainGlobals "super") (some none) && (ec.all fun x => He.eqO (PySem.W.nsIn K mainGlobals x) (some (some (.ref (He.ga K x)))) && errB K (He.ga K "TieError") (He.ga K x))))))
def iscB (sc : Scope) : Bool := decide (sc.kind = .function) && (!sc.isCoroutine && (!sc.isGenerator && (sc.names.all (fun x => decide (x.2 ≠ .cell) && (decide (x.2 ≠ .free) || decide (x.1 = "__class__"))) && (decide (sc.names.lookup ("self" : Str) = some .local) && (decide (sc.names.lookup ("value" : Str) = some .local)
  && (decide (sc.names.lookup ("__class__" : Str) = some .free) && decide (sc.names.lookup ("super" : Str) = some .globalImplicit)))))))
theorem iscB_ok {sc : Scope} (h : iscB sc = true) : IScope sc := by
  unfold iscB at h
  simp only [Bool.and_eq_true, decide_eq_true_eq, Bool.not_eq_true', List.all_eq_true, Bool.or_eq_true] at h
  obtain ⟨h1, h2, h3, h4, h5, h6, h7, h8⟩ := h
  exact ⟨h1, h2, h3, fun x hx => (h4 x hx).1, h5, h6, h7, h8, fun x hx => ((h4 _ (PySem.mem_of_lookup hx)).2).elim (fun z => absurd rfl z) id, fun x hx => (h4 _ (PySem.mem_of_lookup hx)).1 rfl⟩
section
variable {Γ : Gm} {P : Program} {w : World} {mg : Str → Option Value} {base h : Heap} {sc : Scope} {params : Arguments} {file : Str} {ec : List Str} {p1 p2 p3 p4 p5 p6 q1 q2 q3 q4 : Pos} {ar : Arg}
/-- the __init__ of all errors -/
theorem iniOk (c : errsB Γ.K file ec = true) (X : Γ.K.In h) (G : h.Ns mainGlobals mg)
    (e : iniW Γ.K = some (("__init__" : Str), ("TieError.__init__" : Str), params, FuncBody.stmts (iBody p1 p2 p3 p4 p5 p6 q1 q2 q3 q4), sc, mainGlobals, [("__class__" : Str)], builtinsNs)) (S : iscB sc = true)
    (hp : (params.posonlyargs ++ params.args).head? = some ar) (har : ar.arg = "self") (hfile : P.main.file = file) (htop : (P.main.scope.names.lookup ("super" : Str)).isSome = false)
    (hbd : ∀ (kV doc pm : Value) (an : Option Addr) (cdv ct : Value) (cc : Addr) (us : List Value), us.length = 2 → bindArgs (PySem.W.ksFn "__init__" "TieError.__init__" params (iBody p1 p2 p3 p4 p5 p6 q1 q2 q3 q4) sc .none kV doc pm an cdv ct cc) ⟨us, []⟩ = pure ((["self", "value"] : List Str).zip us))
    {pl : Sem Bool} (hev : ∀ env, eval (.Call (.Attribute (.Call (.Name "super" p1) [] [] p2) "__init__" p3) [.Name "value" p4] [] p5) env = (do
      let ov ← attributeBase (.Call (.Name "super" p1) [] [] p2) "__init__" env (eval (.Call (.Name "super" p1) [] [] p2) env)
      standAt p3.atName
      let (f, first) ← holding [ov] (getMethod ov "__init__" pl)
      callWith p5 f first (backTo p5 (starEach [.Name "value" p4] env)) []))
    (hsw : ∀ env, swapsWith (.Call (.Attribute (.Call (.Name "super" p1) [] [] p2) "__init__" p3) [.Name "value" p4] [] p5) none p6.line env = pure false) :
    ∃ fd, FnOk P w Γ.K mg base (L2.CX P w) 1 (fIni Γ.K) fd ["self", "value"] (spIni Γ.K (He.ga Γ.K "TieError")) ∧ Binds Γ.K fd ["self", "value"] [] := by
  unfold errsB at c
  simp only [Bool.and_eq_true, decide_eq_true_eq] at c
  obtain ⟨c1, c2, c3, c4, c5, c6⟩ := c
  obtain ⟨cdD, hcd⟩ := Option.isSome_iff_exists.mp c3
  unfold iniB at c1
  unfold iniW at e
  split at c1
  · rename_i oc od g osl lk
    rw [lk] at e
    obtain ⟨n1, n2, n3, n4, n5, n6, n7, n8, n9, n10, n11, n12, n13, n14, n15⟩ := g
    simp only [Option.some.injEq, Prod.mk.injEq] at e
    obtain ⟨rfl, rfl, rfl, rfl, rfl, rfl, e7, rfl⟩ := e
    simp only [Bool.and_eq_true] at c1
    obtain ⟨d1, d2, d3, d4⟩ := c1
    split at d2
    · split at d3
      · rename_i nm cc
        simp only [List.map_cons, List.map_nil, List.cons.injEq, and_true] at e7
        subst e7
        split at d3
        · rename_i cl cld D csl hcc
          have hD := of_decide_eq_true d3
          subst hD
          split at d4
          · rename_i cda
            split at d4
            · rename_i ccl cdd vs0 ccs hcode
              split at d4
              · rename_i f tf hvs
                exact ⟨_, ini_ok (iscB_ok S) lk d1 hp har hcode hvs (by rw [hfile]; exact d4) hcc hcd (PySem.W.mg_none_of X G (He.eqO_ok c5)) htop (He.eqO_ok c4) hev hsw, .all fun us hl => hbd _ _ _ _ _ _ _ us hl⟩
              · cases d4
            · cases d4
          · cases d4
        · cases d3
      · cases d3
    · cases d2
  · cases c1
theorem erc_of {c : Nat} {x : Str} (cB : errsB Γ.K file ec = true) (X : Γ.K.In h) (G : h.Ns mainGlobals mg) (F : ∃ fd, FnOk P w Γ.K mg base (L2.CX P w) 1 (fIni Γ.K) fd ["self", "value"] (spIni Γ.K (He.ga Γ.K "TieError")) ∧ Binds Γ.K fd ["self", "value"] [])
    (hx : x ∈ ec) (hc : Γ.cls c = He.ga Γ.K x) : Erc Γ P w mg base x c := by
  unfold errsB at cB
  simp only [Bool.and_eq_true, decide_eq_true_eq, List.all_eq_true] at cB
  obtain ⟨c1, c2, c3, c4, c5, c6⟩ := cB
  obtain ⟨k1, k2⟩ := c6 x hx
  obtain ⟨fd, f1, f2⟩ := F
  have k := errB_ok k2
  refine ⟨?_, He.ga Γ.K "TieError", fIni Γ.K, fd, ?_, ?_, c2, f1, f2⟩
  · rw [hc]; exact PySem.W.mg_of X G (He.eqO_ok k1)
  · rw [hc]; exact k.inC
  · rw [hc]; exact k.ini
theorem exm_of {x : Str} (cB : errsB Γ.K file ec = true) (hx : x ∈ ec) : PySem.W.exmOne Γ.K (.ref (He.ga Γ.K x)) (.ref (He.ga Γ.K "TieError")) = some true := by
  unfold errsB at cB
  simp only [Bool.and_eq_true, decide_eq_true_eq, List.all_eq_true] at cB
  exact (errB_ok (cB.2.2.2.2.2 x hx).2).exm
end
end Z

set_option Elab.async false
set_option linter.all false
set_option maxRecDepth 100000
set_option maxHeartbeats 4000000
/-! Z19: a lambda handed to the def that hears -/
namespace Z
open PySem PySem.Spec PyProof.Rows L2 RZ
/-- the heap behind the making of a lambda -/
def MkH (H : Hp) (P : Addr) (q : Str) (c : Addr) (H1 : Hp) : Prop := H1 = H ∨ (H c = none ∧ ∃ ps more : Array Value, H P = some (.tbl ps) ∧ H1 = upd (upd H P (.tbl (ps ++ more))) c (LamX.CodeO c q) ∧ LamX.TabS H1 P q)
abbrev lamO (X : Cx) (params : Arguments) (body : Expr) (scope : Scope) (pm ctv : Value) (c : Addr) : Obj := PySem.W.kla_obj "<lambda>" (X.env.qual ++ "<lambda>") params body scope (cloFrom X.env.cells scope.names []) pm c ctv
section
variable {X : Cx} {pins : List (Addr × Obj)} {σ : L2.St} {H : Hp} {s : Shared} {params : Arguments} {body : Expr} {scope : Scope}
theorem lam_mk {cd P : Addr} {lp : Pos} {E : Value → Shared → Prop} {Q : Value → Shared → Prop} (I : Inv X pins σ H s) (TB : LamX.TabB X.base X.mg cd P) (hcode : X.env.code = .ref cd) (hT : LamX.TabS H P (X.env.qual ++ "<lambda>"))
    (hdef : defaultsOf params X.env = ([], [])) (hfree : ∀ y ∈ scope.names, y.2 = .free → ∃ c, X.env.cells.lookup y.1 = some c)
    (k : ∀ (f c : Addr) (pm ctv : Value) (H1 : Hp) (s1 : Shared), Inv X pins σ H1 s1 → MkH H P (X.env.qual ++ "<lambda>") c H1 → s1.heap.get? f = some (lamO X params body scope pm ctv c) → H1 f = none → f ∉ frs X.stack → H1 c = some (LamX.CodeO c (X.env.qual ++ "<lambda>")) → Q (.ref f) s1) :
    wpAny (model X.prog X.w) X.A (eval (.Lambda params body scope lp) X.env) Q E s := by
  obtain ⟨ps, hP, ht, ha⟩ := hT
  refine PySem.W.kla_eval hdef ?_
  have bP : s.heap.BuiltinsAt X.mg P := TB.bm.keeps I.bk
  have oP : s.heap.get? P = some { cls := .none, data := .fields ps } := I.hok P _ hP
  have nofr : ∀ f, s.heap.objs.size ≤ f → f ∉ frs X.stack := fun f hf z => by
    rcases List.mem_cons.mp (I.stkSub _ z) with e | e
    · have h1 := I.lt
      rw [← e] at h1
      exact absurd (Nat.lt_of_lt_of_le h1 hf) (Nat.lt_irrefl _)
    · exact I.nofs hf e
  cases hc : codeAmong lp ps.toList with
  | some cv =>
    obtain ⟨c, rfl, hco⟩ := ha lp cv hc
    refine PySem.W.kla_makeFunctionHit (mg := X.mg) (c := cd) (P := P) (ps := ps) (closure_ok hfree) I.ok.glob (I.mod.glob.keeps I.bk) hcode (TB.code.keeps I.bk) oP ht hc bP fun ctv h' tk hx hsz => ?_
    have J : Inv X pins σ H { s with heap := h'.push (lamO X params body scope ((X.mg "__name__").getD .none) ctv c), toks := tk } := I.kept fun b o e => Heap.get?_push_of_some _ (hx b o e)
    exact k h'.objs.size c _ ctv H _ J (.inl rfl) (Heap.get?_push_size _ rfl) (I.hok.fresh hsz) (nofr _ hsz) hco
  | none =>
    refine PySem.W.kla_makeFunction (mg := X.mg) (c := cd) (P := P) (ps := ps) (closure_ok hfree) I.ok.glob (I.mod.glob.keeps I.bk) hcode (TB.code.keeps I.bk) oP ht hc TB.gP bP fun c ctv h' tk hx hge hlt hrec htb => ?_
    obtain ⟨c2, oc, vs, t, e2, hoc, hd, hv⟩ := hrec
    cases e2
    have le : s.heap.objs.size ≤ h'.objs.size := by omega
    have nC : H c = none := I.hok.fresh hge
    have J := LamX.inv_table (t' := tk) (more := #[rawInt lp.line, rawInt lp.col, .ref c]) (h' := h'.push (lamO X params body scope ((X.mg "__name__").getD .none) ctv c)) I hP
      (fun b o hb e => Heap.get?_push_of_some _ (hx b o hb e)) (Heap.get?_push_of_some _ htb) hge ⟨oc, vs, t, Heap.get?_push_of_some _ hoc, hd, hv⟩
    have eL : (ps ++ #[rawInt lp.line, rawInt lp.col, .ref c]).toList = ps.toList ++ [rawInt lp.line, rawInt lp.col, .ref c] := by simp
    have tS : LamX.TabS (upd (upd H P (.tbl (ps ++ #[rawInt lp.line, rawInt lp.col, .ref c]))) c (LamX.CodeO c (X.env.qual ++ "<lambda>"))) P (X.env.qual ++ "<lambda>") := by
      refine ⟨_, by rw [upd_ne (ne_of_none hP nC), upd_same], by rw [eL]; exact PySem.TriplesOk_snoc _ _ _ _ ht, fun p' cv hcv => ?_⟩
      rw [eL] at hcv
      rcases LamX.among_app _ ht hcv with z | z
      · obtain ⟨c0, e1, e3⟩ := ha p' cv z
        refine ⟨c0, e1, ?_⟩
        rw [upd_ne (ne_of_none e3 nC), upd_ne (fun q => by rw [q, hP] at e3; exact LamX.codeO_ne _ (Option.some.inj e3).symm)]
        exact e3
      · exact ⟨c, z, upd_same⟩
    refine k h'.objs.size c _ ctv _ _ J (.inr ⟨nC, ps, _, hP, rfl, tS⟩) (Heap.get?_push_size _ rfl) ?_ (nofr _ le) upd_same
    rw [upd_ne (Nat.ne_of_gt hlt), upd_ne (Nat.ne_of_gt (Nat.lt_of_lt_of_le (Heap.lt_size oP) le))]
    exact I.hok.fresh le
end
section
variable {Γ : Gm} {B : Bs} {W : WX} {X : Cx} {σ : L2.St} {H H1 : Hp} {z : Fz} {m : M}
theorem Rl.made {P c : Addr} {q : Str} (r : Rl Γ B z m σ H) (h : MkH H P q c H1) (hm : (P, q) ∈ Γ.T) (hu : ∀ p ∈ Γ.T, p.1 = P → p.2 = q) : Rl Γ B z m σ H1 := by
  rcases h with rfl | ⟨nC, ps, more, hP, rfl, tS⟩
  · exact r
  have gP : z.G P = none := r.rf.tg _ hm
  have gC : z.G c = none := r.rf.gnone nC
  have ne : P ≠ c := ne_of_none hP nC
  have at_ : ∀ b, b ≠ P → b ≠ c → upd (upd H P (.tbl (ps ++ more))) c (LamX.CodeO c q) b = H b := fun b h1 h2 => by rw [upd_ne h2, upd_ne h1]
  have same : ∀ b o, H b = some o → (∀ ps, o ≠ .tbl ps) → upd (upd H P (.tbl (ps ++ more))) c (LamX.CodeO c q) b = some o := fun b o e nt => by
    rw [at_ b (fun q => by rw [q, hP] at e; exact nt _ (Option.some.inj e).symm) (ne_of_none e nC)]
    exact e
  refine r.call ⟨fun b o e => ?_, r.rf.slen, fun n xs b h1 h2 => ?_, r.rf.out, r.rf.rnd, fun p hp => ?_, r.rf.tg⟩ ⟨Ext.refl z, fun b o e _ _ nt => same b o e nt, fun b o e => ?_, fun b o e => .inl e, fun b h => .inl h⟩
  · rw [at_ b (fun q => by rw [q, gP] at e; cases e) (fun q => by rw [q, gC] at e; cases e)]
    exact r.rf.sub b o e
  · obtain ⟨vs, q1, q2⟩ := r.rf.sto n xs b h1 h2
    exact ⟨vs, same b _ q1 (fun ps => nofun), q2⟩
  · by_cases hb : p.1 = P
    · rw [hb, hu p hp hb]
      exact tS
    · obtain ⟨ps', a1, a2, a3⟩ := r.rf.tab p hp
      refine ⟨ps', by rw [at_ _ hb (ne_of_none a1 nC)]; exact a1, a2, fun p' cv hcv => ?_⟩
      obtain ⟨c0, e1, e2⟩ := a3 p' cv hcv
      exact ⟨c0, e1, same c0 _ e2 LamX.codeO_ne⟩
  · by_cases hb : b = P
    · exact ⟨_, by rw [hb, upd_ne ne, upd_same]⟩
    · exact ⟨o, by rw [at_ b hb (ne_of_none e nC)]; exact e⟩
/-- x(), in the def that got the lambda -/
theorem z_act {CXg : CXT} {Eg : XK} {Ng : List Str} {qg a : Str} {sg scope : Scope} {g fl c : Addr} {cdg pm ctv : Value} {params : Arguments} {body : Expr} {k : Nat} {pn : List (Addr × Obj)} {xe : Value → Shared → Prop} {s : Shared} {pins : List (Addr × Obj)} {p1 p2 : Pos} {t : XK → TE}
    (I : Inv X pins σ H s) (L : LamX.LamS X.env.scope scope) (hf : s.heap.get? fl = some (lamO X params body scope pm ctv c)) (hfn : H fl = none) (hfr : fl ∉ frs X.stack) (hgd : X.A.guards = some [])
    (hbind : bindArgs (PySem.W.kla_fn "<lambda>" (X.env.qual ++ "<lambda>") params body scope (cloFrom X.env.cells scope.names []) pm (.ref c) ctv) ⟨[], []⟩ = pure [])
    (tk : Takes ((cxOf CXg X.prog X.w X.K X.mg X.base Ng qg sg g cdg X.A X.stack s H Eg).tr pn xe) W) (hr : Room (k + 1) (X.A.deeper (envOfC qg sg s.heap.objs.size g cdg)))
    (hbody : ∀ (A : Around) (outer : List Env) (s : Shared) (H : Hp) (E : XK), A.guards = some [] → Room k (A.deeper (LamX.lamEnv X scope s.heap.objs.size fl c)) → PE (LamX.lamCx X A outer s H E scope fl c) body (t E))
    (hN : Ng[0]? = some a) (hv : Vis sg a) (hd : (a == ("__debug__" : Str)) = false := by decide) (hcd : (a == ("__classdict__" : Str)) = false := by decide) :
    PE ((cxOf CXg X.prog X.w X.K X.mg X.base Ng qg sg g cdg X.A X.stack s H Eg).tr pn xe) (.Call (.Name a p1) [] [] p2)
      (fun τ G Q => τ[0]? = some (some (.ref fl)) ∧ G c = some (LamX.CodeO c (X.env.qual ++ "<lambda>")) ∧ t (WE W τ) σ G Q) := by
  refine ⟨fun pz sZ τ G Q IZ ⟨hs, hc, ht⟩ => ?_⟩
  refine wpAny_Call_Name_kw (thn ((pe_var (pos := p1) (i := 0) hN hv hd hcd).run pz sZ τ G (fun v G1 => v = .ref fl ∧ G1 = G) IZ ⟨.ref fl, hs, rfl, rfl⟩) fun u s1 ⟨v, G1, I1, r1, ev, eH⟩ => ?_)
  subst ev
  subst eH
  obtain rfl : u = Value.ref fl := r1
  have at1 : s1.heap.get? fl = some (lamO X params body scope pm ctv c) := I1.base.keep fl _ hf hfn hfr (fun z => nomatch (show fl ∈ ([] : List Addr) from z))
  have un : Un (frs X.stack) [] H G1 s.heap s1.heap := I1.base
  obtain ⟨⟨oc, vs, tt, hoc, hdc, hvc⟩, _, _⟩ := I1.hok c _ hc
  have go : codeAny (model X.prog X.w) (X.A.deeper (envOfC qg sg s.heap.objs.size g cdg)) (.call (.ref fl) ⟨[], []⟩) (CR (L2.CX X.prog X.w) (envOfC qg sg s.heap.objs.size g cdg :: X.stack) X.prog X.w G1 s1 Q (WE W τ)) s1 := by
    refine PySem.W.kla_callFunE hr.depth at1 rfl L.co L.gen rfl ⟨c, oc, vs, tt, rfl, hoc, hdc, hvc⟩ ?_
    rw [hbind]
    refine wpAny_pure (wpAny_newFunctionEnv (fun y hy => (L.own y hy).2) (fun y hy => absurd hy (by simp)) (fun h1 hns hsb => ⟨I1.nolimit.fresh _ hsb, ?_⟩) L.kind)
    have kp : ∀ b o, s1.heap.get? b = some o → h1.get? b = some o := fun b o e => hsb.extBut b o (Nat.ne_of_lt (Heap.lt_size e)) (Heap.get?_push_of_some _ e)
    have J : Inv (LamX.lamCx X (X.A.deeper (envOfC qg sg s.heap.objs.size g cdg)) (envOfC qg sg s.heap.objs.size g cdg :: X.stack) s1 G1 (WE W τ) scope fl c) [] σ G1 { s1 with heap := h1, toks := s1.toks + ([] : List (Str × Value)).length } := LamX.lam_start2 I L I1.env0 hr.hd un hns kp
    refine PySem.W.kla_codeExpr (wpAny_mono ((hbody (X.A.deeper (envOfC qg sg s.heap.objs.size g cdg)) _ s1 G1 (WE W τ) hgd (hr.deeper _)).run [] _ _ G1 Q J ht) (fun v s' hq => ?_) fun e s' hq => hq)
    obtain ⟨w', H', J', rv, q⟩ := hq
    exact ⟨w', H', J'.os, J'.bare, J'.base, J'.hok, rv, q⟩
  refine PySem.W.callWith_F0 ⟨_, _, _, _, at1⟩ (wpAny_call (codeAny_mono go fun r s' hq => ?_))
  match r, hq with
  | .error e, hq => exact passAt tk τ pz G1 s1 e s' I1 hq
  | .ok (.ret u), hq => exact I1.after hq
end
end Z

set_option Elab.async false
set_option linter.all false
set_option maxRecDepth 100000
set_option maxHeartbeats 4000000
/-! Z20: _law_heard(lambda: e) -/
namespace Z
open PySem PySem.Spec PyProof.Rows L2 RZ
def hBody (k1 k2 k3 j1 j2 : Nat) (p1 p2 p3 p4 p5 p6 p7 p8 p9 r1 r2 r3 r4 r5 r6 r7 r8 t1 t2 t3 t4 : Pos) : List Stmt :=
  [.Assign [.Tuple [.Name "_law_caught" p1, .Name "_law_back" p2] k1 p3] (.Tuple [.Constant .none j1 p4, .Constant .none j2 p5] k2 p6) p7,
   .Try [.Assign [.Name "_law_back" p8] (.Call (.Name "_law_call" p9) [] [] r1) r2] [.ExceptHandler (some (.Name "TieError" r3)) (some "error") [.Assign [.Name "_law_caught" r4] (.Name "error" r5) r6] r7] [] [] r8,
   .Return (some (.Tuple [.Name "_law_caught" t1, .Name "_law_back" t2] k3 t3)) t4]
abbrev Nh : List Str := ["_law_call", "_law_caught", "_law_back", "error"]
/-- the def that hears, and the class that it catches -/
structure Hrd (Γ : Gm) (mg : Str → Option Value) : Prop where
  ex : ∃ (g : Addr) (fd : FuncData) (pg : Arguments) (sg : Scope) (CS : Addr) (k1 k2 k3 j1 j2 : Nat) (p1 p2 p3 p4 p5 p6 p7 p8 p9 r1 r2 r3 r4 r5 r6 r7 r8 t1 t2 t3 t4 : Pos),
    FunD Γ.K "_law_heard" "_law_heard" pg (hBody k1 k2 k3 j1 j2 p1 p2 p3 p4 p5 p6 p7 p8 p9 r1 r2 r3 r4 r5 r6 r7 r8 t1 t2 t3 t4) sg [] [] g fd ∧ mg "_law_heard" = some (.ref g) ∧ FnScope Nh ["_law_call"] sg ∧ Binds Γ.K fd ["_law_call"] [] ∧ mg "TieError" = some (.ref CS) ∧ (∀ c, PySem.W.exmOne Γ.K (.ref (Γ.cls c)) (.ref CS) = some true) ∧
    sg.names.lookup ("_law_call" : Str) = some .local ∧ sg.names.lookup ("_law_caught" : Str) = some .local ∧ sg.names.lookup ("_law_back" : Str) = some .local ∧ sg.names.lookup ("error" : Str) = some .local ∧ sg.names.lookup ("TieError" : Str) = some .globalImplicit ∧
    (∀ (L f : Addr) (cd : Value), swappedStores [.Tuple [.Name "_law_caught" p1, .Name "_law_back" p2] k1 p3] (.Tuple [.Constant .none j1 p4, .Constant .none j2 p5] k2 p6) (envOfC "_law_heard" sg L f cd) = pure none)
/-- what the making of a lambda asks of the context -/
structure LamT (Γ : Gm) (X : Cx) : Prop where
  ex : ∃ c P, LamX.TabB X.base X.mg c P ∧ X.env.code = .ref c ∧ (P, X.env.qual ++ "<lambda>") ∈ Γ.T ∧ ∀ p ∈ Γ.T, p.1 = P → p.2 = X.env.qual ++ "<lambda>"
def zheard (f : Den) : Den := fun m => match f m with
  | .ok d m1 => .ok (.tup [.non, d]) m1
  | .exc c d m1 => .ok (.tup [.obj c [d], .non]) m1
  | .bad => .bad
theorem locB_of {sc : Scope} {x : Str} (h : sc.names.lookup x = some .local) : locB sc x = true := by
  unfold locB
  rw [h]
section
variable {Γ : Gm} {B : Bs} {W : WX} {X : Cx} {fden : Den}
theorem z_heard {k : Nat} {params : Arguments} {body : Expr} {scope : Scope} {p lpos pos : Pos} (Hd : Hrd Γ X.mg) (Lm : LamT Γ X) (hK : X.K = Γ.K) (hg : Gl X "_law_heard") (hgd : X.A.guards = some []) (hr : Room (k + 2) X.A) (L : LamX.LamS X.env.scope scope) (hdef : defaultsOf params X.env = ([], []))
    (hbind : ∀ (q : Str) (cl : List (Str × Addr)) (pm cv ctv : Value), bindArgs (PySem.W.kla_fn "<lambda>" q params body scope cl pm cv ctv) ⟨[], []⟩ = pure [])
    (hbody : ∀ (A : Around) (outer : List Env) (s : Shared) (H : Hp) (E : XK) (f c : Addr), A.guards = some [] → Room k (A.deeper (LamX.lamEnv X scope s.heap.objs.size f c)) → PE (LamX.lamCx X A outer s H E scope f c) body (tE Γ B (fun c d _ H => E c d H) fden)) :
    PE X (.Call (.Name "_law_heard" p) [.Lambda params body scope lpos] [] pos) (tE Γ B W (zheard fden)) := by
  refine ⟨fun pins s σ H Q I ⟨m, z, rl, hz⟩ => ?_⟩
  obtain ⟨g, fd, pg, sg, CS, k1, k2, k3, j1, j2, p1, p2, p3, p4, p5, p6, p7, p8, p9, r1, r2, r3, r4, r5, r6, r7, r8, t1, t2, t3, t4, F, hm, S, hb, hte, hall, l0, l1, l2, l3, l4, l5⟩ := Hd.ex
  obtain ⟨cd, P, TB, hcode, hmT, hu⟩ := Lm.ex
  obtain ⟨oc, od, dV, kV, doc, pm0, an, cdv, ct, osl, rfl, lk, hcg, _, _⟩ := F.ex
  have hk := F.kp
  rw [← hK] at lk hcg hk hb
  refine wpAny_Call_Name_kw (ld_glob I hg hm ?_ (by decide))
  refine PySem.W.callWith_K (h₀ := X.base) I.ok.mod.kin hk ?_ (by rfl) (by rfl)
  show wpAny _ _ (spliced ((false, eval (.Lambda params body scope lpos) X.env) :: backTo pos (starEach [] X.env))) _ _ s
  refine Calls.spliced_cons (lam_mk I TB hcode (rl.rf.tab _ hmT) hdef (L.has I.ok) fun f c pm ctv H1 s1 I1 mk hf hfn hfr hco => Calls.spliced_nil ⟨I1.kIn, ?_⟩)
  have rl1 := rl.made mk hmT hu
  have go : codeAny (model X.prog X.w) X.A (.call (.ref g) ⟨[.ref f], []⟩) (CR (L2.CX X.prog X.w) X.stack X.prog X.w H1 s1 Q (fun _ _ _ => False)) s1 := by
    refine LamX.run_ofS (CX := L2.CX X.prog X.w) (N := Nh) (ps := ["_law_call"]) (us := [.ref f]) (vs := [.ref f]) lk hcg S hr I1.env0 (hb s1 [.ref f] I1.kIn rfl) (.cons rfl .nil) rfl fun hr' => ?_
    refine ⟨_, pss_cons (ps_asg (pe_tup (pa_cons pe_non (pa_cons pe_non pa_nil))) (pg_tup rfl (gn 1 S.nd (gn 2 S.nd gn0 rfl (locB_of l2)) rfl (locB_of l1))) rfl (l5 _ _ _))
      (pss_cons (ps_tryT (i := 3) (c := .ref CS) rfl rfl rfl S.nd rfl l3 ⟨l4, by decide, .inl hte⟩ takes0
        (fun W pn xe tk _ => pss_one (ps_set (i := 2) S.nd rfl (.inl l2) (z_act (t := fun E => tE Γ B (fun c d _ H => E c d H) fden) I1 L hf hfn hfr hgd (hbind _ _ _ _ _) tk hr' (fun A outer s H E hg0 hr0 => hbody A outer s H E f c hg0 hr0) rfl (.inl l0))))
        (fun a oe cls d pn _ _ => pss_one (ps_set (i := 1) S.nd rfl (.inl l1) (pe_var (i := 3) rfl (.inl l3)) rfl (.inr l1))))
      (pss_one (ps_ret (pe_tup (pa_cons (pe_var (i := 1) rfl (.inl l1)) (pa_cons (pe_var (i := 2) rfl (.inl l2)) pa_nil)))))), ?_⟩
    refine ⟨by decide, fun q hq => ⟨q, [.non, .non], rfl, SqT.of upd_same, rfl, gNames_of (is := [1, 2]) rfl ?_⟩⟩
    have rl2 : Rl Γ B z m σ (upd H1 q (.tup [.non, .non])) := rl1.call (rl1.rf.limbo hq) (sn_limbo hq)
    refine ⟨rfl, by rw [upd_ne (ne_of_none hco hq)]; exact hco, m, z, rl2, ?_⟩
    have hz : Po Γ B W (rpE Γ) σ z (zheard fden m) Q := hz
    unfold zheard at hz
    cases e : fden m with
    | bad => rw [e] at hz; exact hz
    | ok d m1 =>
      rw [e] at hz
      refine fun z' v H' x1 r1 q1 => ⟨.non, rfl, v, rfl, (by show 2 ≤ sizeLine; decide), fun q' hq' => ?_⟩
      obtain ⟨x2, r2, q2⟩ := r1.newTup (ds := [.non, d]) (vs := [.non, v]) hq' (.cons (Rep.non.mpr rfl) (.cons q1 .nil))
      exact hz _ _ _ (x1.trans x2) r2 q2
    | exc cn d m1 =>
      rw [e] at hz
      refine fun z' dx u H' x1 r1 g1 q1 => ⟨true, by rw [show (cxOf (L2.CX X.prog X.w) X.prog X.w X.K X.mg X.base Nh "_law_heard" sg g cdv X.A X.stack s1 H1 (fun _ _ _ => False)).K = Γ.K from hK]; exact hall cn, fun _ => ⟨_, dx, rfl, rfl, fun a ha => ⟨.ref a, rfl, fun ha' => ⟨.ref a, rfl, .non, rfl, (by show 2 ≤ sizeLine; decide), fun q' hq' => ?_⟩⟩⟩, nofun⟩
      have r2 := r1.grow (o := ErO (Γ.cls cn) dx a) ha
      have x2 : Ext z' (z'.add a (ErO (Γ.cls cn) dx a)) := ext_add (r1.rf.gnone ha)
      have ro : Rep Γ (z'.add a (ErO (Γ.cls cn) dx a)) (.obj cn [d]) (.ref a) := by
        simp only [Rep]
        exact ⟨a, dx, u, rfl, upd_same, x2.g _ _ g1, .cons (Rep.mono x2 d q1) .nil⟩
      obtain ⟨x3, r3, q3⟩ := r2.newTup (ds := [.obj cn [d], .non]) (vs := [.ref a, .non]) hq' (.cons ro (.cons (Rep.non.mpr rfl) .nil))
      exact hz _ _ _ ((x1.trans x2).trans x3) r3 q3
  refine wpAny_call (codeAny_mono go fun r s2 hq => ?_)
  match r, hq with
  | .error e, hq =>
    obtain ⟨_, _, _, _, _, _, _, _, _, _, _, _, hf⟩ := hq
    exact hf.elim
  | .ok (.ret u), hq => exact I1.after hq
end
end Z

set_option Elab.async false
set_option linter.all false
set_option maxRecDepth 100000
set_option maxHeartbeats 4000000
/-! Z21: isinstance(e, an error class); e.value -/
namespace Z
open PySem PySem.Spec PyProof.Rows L2 RZ
structure XcC (K : PySem.W.Frag) (C : Addr) : Prop where
  cl : (PySem.W.clsIn K C).isSome = true
  ga : PySem.W.findIn K (.ref C) "__getattribute__" = some (some (.builtin "BaseException.__getattribute__"))
  gg : PySem.W.findIn K (.ref C) "__getattr__" = some none
  be : PySem.W.subIn K (.ref C) (.type "BaseException") = some true
  cc : PySem.W.findIn K (.ref C) "__class__" = some (some (.builtin "object.__class__"))
  sp : PySem.W.specialIn K (.builtin "object.__class__") "__get__" = some (some (.builtin "getset_descriptor.__get__"))
  tk : PySem.W.takesIn K (.builtin "object.__class__") = some true
  mo : PySem.W.mroIn K C (.type "object") = some true
  hd : PySem.W.hasDictIn K C = true
  no : PySem.W.findIn K (.ref C) "value" = some none
def xcB (K : PySem.W.Frag) (C : Addr) : Bool := (PySem.W.clsIn K C).isSome && (He.eqO (PySem.W.findIn K (.ref C) "__getattribute__") (some (some (.builtin "BaseException.__getattribute__"))) && (He.eqO (PySem.W.findIn K (.ref C) "__getattr__") (some none) && (decide (PySem.W.subIn K (.ref C) (.type "BaseException") = some true)
  && (He.eqO (PySem.W.findIn K (.ref C) "__class__") (some (some (.builtin "object.__class__"))) && (He.eqO (PySem.W.specialIn K (.builtin "object.__class__") "__get__") (some (some (.builtin "getset_descriptor.__get__"))) && (decide (PySem.W.takesIn K (.builtin "object.__class__") = some true)
  && (decide (PySem.W.mroIn K C (.type "object") = some true) && (PySem.W.hasDictIn K C && He.eqO (PySem.W.findIn K (.ref C) "value") (some none)))))))))
theorem xcB_ok {K : PySem.W.Frag} {C : Addr} (h : xcB K C = true) : XcC K C := by
  unfold xcB at h
  simp only [Bool.and_eq_true, decide_eq_true_eq] at h
  obtain ⟨h1, h2, h3, h4, h5, h6, h7, h8, h9, h10⟩ := h
  exact ⟨h1, He.eqO_ok h2, He.eqO_ok h3, h4, He.eqO_ok h5, He.eqO_ok h6, h7, h8, h9, He.eqO_ok h10⟩
def tysZ : List String := ["NoneType", "bool", "int", "str", "tuple", "list", "dict"]
/-- the class c (a value) among the errors: t says which are of it -/
structure IsT (Γ : Gm) (c : Value) (t : Nat → Bool) : Prop where
  er : ∀ n, PySem.W.kitOne Γ.K (.ref (Γ.cls n)) c = some (t n)
  no : ∀ T ∈ tysZ, PySem.W.kitOne Γ.K (.type T) c = some false
def istB (K : PySem.W.Frag) (ec : List Str) (c : Value) (ts : List Bool) : Bool := (ec.zip ts).all (fun p => decide (PySem.W.kitOne K (.ref (He.ga K p.1)) c = some p.2)) && tysZ.all fun T => decide (PySem.W.kitOne K (.type T) c = some false)
/-- the errors' numbers: the first one is the base of all -/
def clsOf (K : PySem.W.Frag) (ec : List Str) (n : Nat) : Addr := He.ga K (ec.getD n "TieError")
def istOf (ts : List Bool) (n : Nat) : Bool := ts.getD n (ts.headD false)
theorem isT_of {Γ : Gm} {ec : List Str} {c : Value} {ts : List Bool} (hcl : Γ.cls = clsOf Γ.K ec) (h0 : ec[0]? = some ("TieError" : Str)) (hl : ec.length = ts.length) (h : istB Γ.K ec c ts = true) : IsT Γ c (istOf ts) := by
  unfold istB at h
  simp only [Bool.and_eq_true, List.all_eq_true, decide_eq_true_eq] at h
  obtain ⟨h1, h2⟩ := h
  have key : ∀ (n : Nat) (x : Str) (b : Bool), ec[n]? = some x → ts[n]? = some b → PySem.W.kitOne Γ.K (.ref (He.ga Γ.K x)) c = some b := fun n x b e1 e2 => h1 (x, b) (List.mem_of_getElem? (i := n) (by rw [List.getElem?_zip_eq_some]; exact ⟨e1, e2⟩))
  refine ⟨fun n => ?_, h2⟩
  rw [hcl]
  show PySem.W.kitOne Γ.K (.ref (He.ga Γ.K (ec.getD n "TieError"))) c = some (istOf ts n)
  unfold istOf
  by_cases hn : n < ec.length
  · refine key n _ _ ?_ ?_
    · rw [List.getD_eq_getElem?_getD, List.getElem?_eq_getElem hn]
      rfl
    · rw [List.getD_eq_getElem?_getD, List.getElem?_eq_getElem (by omega)]
      rfl
  · rw [List.getD_eq_getElem?_getD, List.getElem?_eq_none (by omega), List.getD_eq_getElem?_getD, List.getElem?_eq_none (by omega)]
    refine key 0 _ _ h0 ?_
    cases ts with
    | nil =>
      cases ec with
      | nil => simp at h0
      | cons a l => simp at hl
    | cons b l => rfl
def iscD (t : Nat → Bool) (d : D) : Option D := match d with
  | .obj c _ => some (.bl (t c))
  | .cel _ => none
  | .scr _ => none
  | .ins _ _ => none
  | _ => some (.bl false)
def zisc (t : Nat → Bool) (f : Den) : Den := fun m => (f m).bind fun d m1 => ofO (iscD t d) m1
def valD (d : D) : Option D := match d with
  | .obj _ [v] => some v
  | _ => none
def zval (f : Den) : Den := fun m => (f m).bind fun d m1 => ofO (valD d) m1
section
variable {Γ : Gm} {B : Bs} {W : WX} {X : Cx} {σ : L2.St} {H : Hp} {z : Fz} {m : M} {s : Shared} {pins : List (Addr × Obj)} {e : Expr} {f : Den} {p pos : Pos}
theorem er_inst {C dx a : Addr} {fs : List (Str × V)} (I : Inv X pins σ H s) (e1 : H a = some (ErO C dx a)) (e2 : H dx = some (.xd fs)) : ∃ (oe od : Obj) (mA : Str → Option Value), PySem.W.InstAt s.heap a oe C (some od) ∧ (∀ name, PySem.W.lookIn name od = some (mA name)) ∧ ∀ f, RelO (fs.lookup f) (mA f) := by
  obtain ⟨⟨oe, vs, ha, hz, hd⟩, _, _⟩ := I.hok a _ e1
  have hx : ObjOk X.prog X.w H s.heap dx (.xd fs) := I.hok dx _ e2
  obtain ⟨mA, hns, hr⟩ := hx
  obtain ⟨od, ho, hl⟩ := lookIn_ns hns
  exact ⟨oe, od, mA, ⟨ha, hz.1, by unfold PySem.W.notCls; rw [hd] <;> rfl, by rw [hz.2]; exact ho⟩, hl, hr⟩
def rIsc (K : PySem.W.Frag) : List V → Hp → VK → Prop := fun xs H Q => ∃ (a C dx : Addr) (c : V) (fs : List (Str × V)) (u : Value) (b : Bool), xs = [.ref a, c] ∧ ClsV c u ∧ H a = some (ErO C dx a) ∧ H dx = some (.xd fs) ∧ XcC K C ∧ PySem.W.kitOne K (.ref C) u = some b ∧ Q (.bl b) H
theorem call_isc : CallR X (.builtin "isinstance") (rIsc X.K) := by
  intro pins s σ H xs us Q I r h
  obtain ⟨a, C, dx, c, fs, u, b, rfl, k, e1, e2, T, e3, q⟩ := h
  obtain ⟨u1, u2, rfl, r1, r2⟩ := vals2 r
  have e4 := k.eq r2
  subst e4
  obtain rfl : u1 = Value.ref a := r1
  obtain ⟨oe, od, mA, J, _, _⟩ := er_inst I e1 e2
  exact PySem.W.kia_one (PySem.W.kitx_exc T.cl T.ga T.gg T.be T.cc T.sp T.tk T.mo) I.kIn J e3 (fun z => nomatch z) fun tk => ⟨.bl b, H, I.tok tk, rfl, q⟩
theorem z_isc {c : V} {u : Value} {t : Nat → Bool} {a2 : Expr} (hK : X.K = Γ.K) (hx : ∀ n, XcC Γ.K (Γ.cls n)) (hu : ClsV c u) (ht : IsT Γ u t) (hg : Gl X "isinstance") (hm : X.mg "isinstance" = none) (hb : bootBuiltins "isinstance" = some (.builtin "isinstance")) (h2 : PE X a2 (tC c))
    (ha : PE X e (tE Γ B W f)) (he : starEach [e, a2] X.env = (false, eval e X.env) :: starEach [a2] X.env) (he2 : starEach [a2] X.env = (false, eval a2 X.env) :: starEach [] X.env) (hpl : (backTo pos (starEach [a2] X.env)).any (·.1) = false) :
    PE X (.Call (.Name "isinstance" p) [e, a2] [] pos) (tE Γ B W (zisc t f)) := by
  refine PE.imp (pe_callB (CallR.or call_isi call_isc) hg hm hb (pa_cons ha (pa_cons h2 pa_nil he2) he) (by decide) (by decide) he hpl) fun σ H Q ⟨m, z, rl, h⟩ => ?_
  refine bnd rl h fun z1 d m1 v H1 e1 r1 p1 h1 => ?_
  rw [hK]
  have fin : ∀ T : String, T ∈ tysZ → TyX Γ.K H1 v (.type T) → Po Γ B W (rpE Γ) σ z1 (.ok (.bl false) m1) Q → rIsi Γ.K [v, c] H1 Q ∨ rIsc Γ.K [v, c] H1 Q := fun T hT ty po => .inl ⟨v, c, .type T, u, false, rfl, hu, ty, ht.no T hT, po z1 (.bl false) H1 (Ext.refl _) r1 (Rep.bl.mpr rfl)⟩
  cases d with
  | obj n ds =>
    simp only [Rep] at p1
    obtain ⟨a, dx, w, rfl, g1, g2, _⟩ := p1
    exact .inr ⟨a, Γ.cls n, dx, c, _, u, t n, rfl, hu, r1.rf.sub _ _ g1, r1.rf.sub _ _ g2, hx n, ht.er n, h1 z1 (.bl (t n)) H1 (Ext.refl _) r1 (Rep.bl.mpr rfl)⟩
  | scr _ => exact h1.elim
  | ins _ _ => exact h1.elim
  | cel _ => exact h1.elim
  | non => rw [Rep.non.mp p1] at fin ⊢; exact fin "NoneType" (by decide) (.base .non) h1
  | bl k => rw [Rep.bl.mp p1] at fin ⊢; exact fin "bool" (by decide) (.base (.bl k)) h1
  | int k => rw [Rep.int.mp p1] at fin ⊢; exact fin "int" (by decide) (.base (.int k)) h1
  | str k => rw [Rep.str.mp p1] at fin ⊢; exact fin "str" (by decide) (.base (.str k)) h1
  | tup ds =>
    obtain ⟨a, us, rfl, k1, k2⟩ := Rep.tup.mp p1
    exact fin "tuple" (by decide) (tyX_tup (r1.sqT k1)) h1
  | lst ds =>
    obtain ⟨a, us, rfl, k1, k2⟩ := Rep.lst.mp p1
    exact fin "list" (by decide) (.base (.lst (r1.rf.sub _ _ k1))) h1
  | dct ks ds =>
    simp only [Rep] at p1
    obtain ⟨a, rfl, ⟨kvs, k1, k2⟩ | ⟨kvs, k0, k1, k2⟩⟩ := p1
    · exact fin "dict" (by decide) (.base (.dK (r1.rf.sub _ _ k1))) h1
    · exact fin "dict" (by decide) (.base (.dT (r1.rf.sub _ _ k1))) h1
theorem z_val (hK : X.K = Γ.K) (hx : ∀ n, XcC Γ.K (Γ.cls n)) (ha : PE X e (tE Γ B W f)) (hb : attributeBase e "value" X.env (eval e X.env) = eval e X.env) : PE X (.Attribute e "value" pos) (tE Γ B W (zval f)) := by
  refine ⟨fun pins s σ H Q I ⟨m, z, rl, h⟩ => ?_⟩
  have hA : tE Γ B W f σ H fun x H1 => ∃ (a C dx : Addr) (w : V), x = .ref a ∧ H1 a = some (ErO C dx a) ∧ H1 dx = some (.xd [(("value" : Str), w)]) ∧ XcC Γ.K C ∧ Q w H1 := by
    refine bnd rl h fun z1 d m1 v H1 e1 r1 p1 h1 => ?_
    cases d with
    | obj n ds =>
      simp only [Rep] at p1
      obtain ⟨a, dx, w, rfl, g1, g2, g3⟩ := p1
      match ds, g3, h1 with
      | [], _, h1 => exact h1.elim
      | [d], g3, h1 =>
        obtain ⟨w', e, g⟩ := g3.one
        cases e
        exact ⟨a, _, dx, w, rfl, r1.rf.sub _ _ g1, r1.rf.sub _ _ g2, hx n, h1 z1 w H1 (Ext.refl _) r1 g⟩
      | _ :: _ :: _, _, h1 => exact h1.elim
    | _ => exact h1.elim
  refine attr_of hb (thn (ha.run pins s σ H _ I hA) fun u s1 ⟨x, H1, I1, rx, a, C, dx, w, ex, g1, g2, T, q⟩ => ?_)
  subst ex
  obtain rfl : u = Value.ref a := rx
  obtain ⟨oe, od, mA, J, hl, hr⟩ := er_inst I1 g1 g2
  rw [← hK] at T
  obtain ⟨u, hu, ru⟩ := RelO.some_of (v := w) (o := mA "value") (by have := hr "value"; exact this)
  exact HandSPX.exc_get I1.kIn J T.ga T.gg T.be (PySem.W.findObj_own T.hd T.no rfl (by rw [hl, hu])) (handed_of ru) ⟨w, H1, I1.tok _, ru, q⟩
end
end Z

set_option Elab.async false
set_option linter.all false
set_option maxRecDepth 100000
set_option maxHeartbeats 4000000
/-! Z22: dict displays (keys: written texts) -/
namespace Z
open PySem PySem.Spec PyProof.Rows L2 RZ
section
variable {Γ : Gm} {B : Bs} {W : WX} {X : Cx} {σ σ' : L2.St} {H H' : Hp} {z z' : Fz} {m m' : M} {pos : Pos}
/-- an object that nobody knows stands through it -/
theorem Rl.through1 {p : Addr} {o : HO} (hp : H p = some o) (ho : ∀ ps, o ≠ .tbl ps) (g : z.G p = none) (nr : p ∉ z.r) (nb : p ∉ blds m.e σ) (r' : Rl Γ (Bs.here B m z σ H) z' m' σ' H') : H' p = some o ∧ z'.G p = none ∧ p ∉ z'.r ∧ p ∉ blds m'.e σ' := by
  refine ⟨r'.sn.keep p _ hp nr nb ho, ?_, fun hm => ?_, fun hm => ?_⟩
  · cases q : z'.G p with
    | none => rfl
    | some u =>
      rcases r'.sn.gnew p u q with h | h | h
      · rw [show z.G p = some u from h] at g; cases g
      · rw [show H p = none from h] at hp; cases hp
      · exact absurd h nb
  · rcases r'.sn.rnew p hm with h | h | h
    · exact nr h
    · rw [show H p = none from h] at hp; cases hp
    · exact nb h
  · obtain ⟨i, ky, ys, k1, k2⟩ := mem_blds.mp hm
    obtain ⟨a, us, e, _, _, _, _, q5⟩ := r'.slot i _ _ k1 k2
    cases e
    rcases q5 with q5 | q5
    · rw [show H p = none from q5] at hp; cases hp
    · exact nb q5
/-- it is written and frozen -/
theorem Rl.put {p : Addr} {o o' : HO} (r : Rl Γ B z m σ H) (hp : H p = some o) (ho : ∀ ps, o ≠ .tbl ps) (hx : ∀ φ, o ≠ .ext φ) (g : z.G p = none) (nr : p ∉ z.r) (nb : p ∉ blds m.e σ) (bn : B.H p = none) : Ext z (z.add p o') ∧ Rl Γ B (z.add p o') m σ (upd H p o') := by
  have ex : Ext z (z.add p o') := ext_add g
  refine ⟨ex, ⟨⟨fun a u e => ?_, r.rf.slen, fun n xs a h1 h2 => ?_, fun a ha => ?_, r.rf.rnd, fun q hq => ?_, fun q hq => ?_⟩, ⟨r.sn.ext.trans ex, fun a u e hn hx ht => ?_, fun a u e => ?_, fun a u e => ?_, r.sn.rnew⟩, r.len, fun i s w e1 e2 => ?_, r.apart⟩⟩
  · have e : upd z.G p o' a = some u := e
    by_cases ha : a = p
    · subst ha; rw [upd_same] at e ⊢; exact e
    · rw [upd_ne ha] at e ⊢; exact r.rf.sub a u e
  · obtain ⟨vs, q1, q2⟩ := r.rf.sto n xs a h1 h2
    exact ⟨vs, by rw [upd_ne (fun (e : a = p) => nr (by rw [← e]; exact List.mem_of_getElem? h2))]; exact q1, RepL.mono ex xs q2⟩
  · show upd z.G p o' a = none
    rw [upd_ne (fun (e : a = p) => nr (by rw [← e]; exact ha))]
    exact r.rf.out a ha
  · obtain ⟨ps, q1, q2, q3⟩ := r.rf.tab q hq
    refine ⟨ps, ?_, q2, fun pos cv hc => ?_⟩
    · rw [upd_ne (fun e => by rw [e, hp] at q1; exact ho _ (Option.some.inj q1))]
      exact q1
    · obtain ⟨c, e1, e2⟩ := q3 pos cv hc
      refine ⟨c, e1, ?_⟩
      rw [upd_ne (fun e => by rw [e, hp] at e2; exact hx _ (Option.some.inj e2))]
      exact e2
  · obtain ⟨ps, q1, _⟩ := r.rf.tab q hq
    show upd z.G p o' q.1 = none
    rw [upd_ne (fun e => by rw [e, hp] at q1; exact ho _ (Option.some.inj q1))]
    exact r.rf.tg q hq
  · rw [upd_ne (fun q => by rw [q, bn] at e; cases e)]
    exact r.sn.keep a u e hn hx ht
  · by_cases ha : a = p
    · subst ha; exact ⟨_, upd_same⟩
    · rw [upd_ne ha]; exact r.sn.live a u e
  · have e : upd z.G p o' a = some u := e
    by_cases ha : a = p
    · subst ha; exact .inr (.inl bn)
    · rw [upd_ne ha] at e; exact r.sn.gnew a u e
  · have q := r.slot i s w e1 e2
    cases s with
    | slf => exact q
    | un => trivial
    | val d =>
      obtain ⟨v, e, t⟩ := q
      exact ⟨v, e, Rep.mono ex d t⟩
    | box bk ys =>
      obtain ⟨a, us, e, q1, q2, q3, q4, q5⟩ := q
      have ne : a ≠ p := fun ea => nb (mem_blds.mpr ⟨i, bk, ys, e1, by rw [e2, e, ea]⟩)
      refine ⟨a, us, e, by rw [upd_ne ne]; exact q1, RepL.mono ex ys q2, ?_, q4, q5⟩
      show upd z.G p o' a = none
      rw [upd_ne ne]
      exact q3
/-- pairs of written texts and values -/
structure PDs (X : Cx) (Γ : Gm) (W : WX) (pos : Pos) (keys : List (Option Expr)) (values : List Expr) (ks : List Str) (fs : DenL) : Prop where
  ex : ∃ trs, PPs X pos keys values trs ∧ ∀ B σ H Q, tA Γ B W fs σ H (fun vs H1 => Q ((ks.zip vs).map fun q => (V.str q.1, q.2)) H1) → tPairs trs σ H Q
  all : keys.all (·.isSome) = true
  kl : keys.length = ks.length
  vl : values.length = ks.length
  len : ∀ m ds m1, fs m = .ok ds m1 → ds.length = ks.length
theorem pd_nil : PDs X Γ W pos [] [] [] znil := ⟨⟨[], pps_nil, fun B σ H Q ⟨m, z, rl, h⟩ => h z [] H (Ext.refl _) rl RepL.nil⟩, rfl, rfl, rfl, fun m ds m1 e => by cases e; rfl⟩
theorem pd_cons {k : Str} {j : Nat} {kp : Pos} {e : Expr} {f : Den} {keys : List (Option Expr)} {values : List Expr} {ks : List Str} {fs : DenL} (hv : ∀ B, PE X e (tE Γ B W f)) (hr : PDs X Γ W pos keys values ks fs) :
    PDs X Γ W pos (some (.Constant (.str k) j kp) :: keys) (e :: values) (k :: ks) (zcons f fs) := by
  obtain ⟨trs, h1, h2⟩ := hr.ex
  have hv' : PE X e (fun σ H Q => ∃ B, tE Γ B W f σ H Q) := ⟨fun pins s σ H Q I ⟨B, q⟩ => (hv B).run pins s σ H Q I q⟩
  refine ⟨⟨_, pps_cons pe_str hv' h1, fun B σ H Q ⟨m, z, rl, h⟩ => ?_⟩, hr.all, congrArg (· + 1) hr.kl, congrArg (· + 1) hr.vl, fun m ds m1 q => ?_⟩
  · refine ⟨B, bnd rl h fun z1 d m1 x H1 e1 r1 p1 h1 => h2 B _ _ _ (bnd r1 h1 fun z2 ds m2 xs H2 e2 r2 p2 h3 => ?_)⟩
    exact h3 z2 (x :: xs) H2 (Ext.refl _) r2 (.cons (Rep.mono e2 d p1) p2)
  · unfold zcons at q
    cases q1 : f m with
    | bad => rw [q1] at q; cases q
    | exc c d m2 => rw [q1] at q; cases q
    | ok d m2 =>
      rw [q1] at q
      have q : (fs m2).bind (fun ds m2 => R.ok (d :: ds) m2) = .ok ds m1 := q
      cases q2 : fs m2 with
      | bad => rw [q2] at q; cases q
      | exc c d m2 => rw [q2] at q; cases q
      | ok ds' m3 =>
        rw [q2] at q
        have q : R.ok (d :: ds') m3 = .ok ds m1 := q
        cases q
        exact congrArg (· + 1) (hr.len _ _ _ q2)
theorem merge_app : ∀ (more kvs : List (Key × V)), ((kvs ++ more).map (·.1)).Nodup → mergeK kvs more = kvs ++ more
  | [], kvs, _ => by simp [mergeK]
  | q :: more, kvs, h => by
    have hq : (kvs.any fun kv => decide (kv.1 = q.1)) = false := by
      rw [List.any_eq_false]
      intro kv hkv
      simp only [decide_eq_true_eq]
      intro e
      rw [List.map_append, List.map_cons] at h
      have := (List.nodup_append.mp h).2.2 kv.1 (List.mem_map_of_mem hkv) q.1 (List.mem_cons_self ..)
      exact this e
    have e : putK kvs q.1 q.2 = kvs ++ [q] := by
      unfold putK
      rw [if_neg (by rw [hq]; decide)]
    have ih := merge_app more (kvs ++ [q]) (by rw [List.append_assoc]; exact h)
    show mergeK (putK kvs q.1 q.2) more = _
    rw [e, ih, List.append_assoc]
    rfl
def zdct (ks : List Str) (fs : DenL) : Den := fun m => (fs m).bind fun ds m1 => .ok (.dct (ks.map .str) ds) m1
theorem zip_fst {α β : Type} : ∀ {as : List α} {bs : List β}, bs.length = as.length → (as.zip bs).map (·.1) = as
  | [], _, _ => rfl
  | a :: as, [], h => by simp at h
  | a :: as, b :: bs, h => by
    rw [List.zip_cons_cons, List.map_cons, zip_fst (by simpa using h)]
theorem zip_snd {α β : Type} : ∀ {as : List α} {bs : List β}, bs.length = as.length → (as.zip bs).map (·.2) = bs
  | [], [], _ => rfl
  | [], b :: bs, h => by simp at h
  | a :: as, [], h => by simp at h
  | a :: as, b :: bs, h => by
    rw [List.zip_cons_cons, List.map_cons, zip_snd (by simpa using h)]
theorem rep_dct {p : Addr} {ks : List Str} {vs : List V} {ds : List D} {z : Fz} (h : z.G p = some (.dK ((ks.map (Sum.inr : Str → Key)).zip vs))) (hl : vs.length = ks.length) (q : RepL Γ z ds vs) : Rep Γ z (.dct (ks.map .str) ds) (.ref p) := by
  simp only [Rep]
  have e1 := zip_fst (as := ks.map (Sum.inr : Str → Key)) (bs := vs) (by simpa using hl)
  have e2 := zip_snd (as := ks.map (Sum.inr : Str → Key)) (bs := vs) (by simpa using hl)
  refine ⟨p, rfl, .inl ⟨_, h, ?_, by rw [e2]; exact q⟩⟩
  have : (((ks.map (Sum.inr : Str → Key)).zip vs).map fun p => keyD p.1) = (((ks.map (Sum.inr : Str → Key)).zip vs).map (·.1)).map keyD := by rw [List.map_map]; rfl
  rw [this, e1, List.map_map]
  rfl
theorem z_dct {keys : List (Option Expr)} {values : List Expr} {ks : List Str} {fs : DenL} (hB : PDs X Γ W pos keys values ks fs) (h0 : ks ≠ []) (hn : ks.Nodup) (h15 : ks.length ≤ 15) : PE X (.Dict keys values pos) (tE Γ B W (zdct ks fs)) := by
  obtain ⟨trs, h1, h2⟩ := hB.ex
  have k0 : keys ≠ [] := fun e => h0 (List.length_eq_zero_iff.mp (by rw [← hB.kl, e]; rfl))
  refine ⟨fun pins s σ H Q I ⟨m, z, rl, hz⟩ => (pe_disp h1 hB.all (hB.kl.trans hB.vl.symm) k0 (by rw [hB.kl]; exact h15)).run pins s σ H Q I fun p hp => ?_⟩
  have r1 : Rl Γ B z m σ (upd H p (.dK [])) := rl.call (rl.rf.limbo hp) (sn_limbo hp)
  have nb : p ∉ blds m.e σ := fun hm => by
    obtain ⟨i, ky, ys, k1, k2⟩ := mem_blds.mp hm
    obtain ⟨a, us, e, q1, _⟩ := rl.slot i _ _ k1 k2
    cases e
    rw [q1] at hp; cases hp
  have hb0 : B.H p = none := rl.sn.back hp
  have hz : Po Γ B W (rpE Γ) σ z ((fs m).bind fun ds m1 => .ok (.dct (ks.map .str) ds) m1) Q := hz
  refine h2 (Bs.here B m z σ (upd H p (.dK []))) σ _ _ ⟨m, z, r1.rebase, ?_⟩
  cases e0 : fs m with
  | bad => rw [e0] at hz; exact hz
  | exc c d m1 =>
    rw [e0] at hz
    exact fun z' dx u H' x1 r' g q => hz z' dx u H' x1 (r1.unbase r') g q
  | ok ds m1 =>
    rw [e0] at hz
    intro z' vs H' x1 r' q
    obtain ⟨t1, t2, t3, t4⟩ := Rl.through1 (upd_same (H := H) (o := .dK [])) (fun ps => nofun) (rl.rf.gnone hp) (rl.rf.rnone hp) nb r'
    have r2 := r1.unbase r'
    have hl : vs.length = ks.length := by rw [← q.length]; exact hB.len _ _ _ e0
    have e1 : (ks.zip vs).map (fun q => (V.str q.1, q.2)) = ((ks.map (Sum.inr : Str → Key)).zip vs).map (fun kv => (kV kv.1, kv.2)) := by
      rw [List.zip_map_left, List.map_map]
      rfl
    have e2 : mergeK [] ((ks.map (Sum.inr : Str → Key)).zip vs) = (ks.map (Sum.inr : Str → Key)).zip vs := by
      refine merge_app _ [] ?_
      rw [List.nil_append, zip_fst (by simpa using hl)]
      exact List.Pairwise.map _ (fun a b (n : a ≠ b) e => n (Sum.inr.inj e)) hn
    refine ⟨t1, _, e1, by rw [List.length_zip, List.length_map]; omega, ?_⟩
    rw [e2]
    obtain ⟨x2, r3⟩ := r2.put (o' := .dK ((ks.map (Sum.inr : Str → Key)).zip vs)) t1 (fun ps => nofun) (fun φ => nofun) t2 t3 t4 hb0
    exact hz _ _ _ (x1.trans x2) r3 (rep_dct (show upd z'.G p _ p = _ from upd_same) hl (RepL.mono x2 ds q))
/-- {} -/
theorem z_dct0 : PE X (.Dict [] [] pos) (tE Γ B W (zk (.dct [] []))) := by
  refine PE.imp pe_dnewK fun σ H Q ⟨m, z, rl, h⟩ p hp => ?_
  refine h _ _ _ (ext_add (rl.rf.gnone hp)) (rl.grow hp) ?_
  simp only [Rep]
  exact ⟨p, rfl, .inl ⟨[], upd_same, rfl, RepL.nil⟩⟩
end
end Z

set_option Elab.async false
set_option linter.all false
set_option maxRecDepth 100000
set_option maxHeartbeats 4000000
/-! Z23: repr, dicts among the data -/
namespace Z
open PySem PySem.Spec PyProof.Rows L2 RZ
def keyP : Key → PyData
  | .inl i => .int i
  | .inr x => .str x
mutual
inductive DpX (K : PySem.W.Frag) (H : Hp) : V → PyData → Prop
  | non : DpX K H .non .none
  | bl (b : Bool) : DpX K H (.bl b) (.bool b)
  | int (i : Int) : DpX K H (.int i) (.int i)
  | str (x : Str) : DpX K H (.str x) (.str x)
  | lst {a : Addr} {xs : List V} {ds : List PyData} : SqL K H a xs → DpXs K H xs ds → DpX K H (.ref a) (.list ds)
  | tup {a : Addr} {xs : List V} {ds : List PyData} : SqT K H a xs → DpXs K H xs ds → DpX K H (.ref a) (.tuple ds)
  | dct {a : Addr} {kvs : List (Key × V)} {ds : List PyData} : H a = some (.dK kvs) → DpXs K H (kvs.map (·.2)) ds → DpX K H (.ref a) (.dict ((kvs.map fun q => keyP q.1).zip ds))
inductive DpXs (K : PySem.W.Frag) (H : Hp) : List V → List PyData → Prop
  | nil : DpXs K H [] []
  | cons {v : V} {vs : List V} {d : PyData} {ds : List PyData} : DpX K H v d → DpXs K H vs ds → DpXs K H (v :: vs) (d :: ds)
end
theorem DpXs.length {K : PySem.W.Frag} {H : Hp} : ∀ {vs : List V} {ds : List PyData}, DpXs K H vs ds → vs.length = ds.length
  | _, _, .nil => rfl
  | _, _, .cons _ h => congrArg (· + 1) h.length
mutual
/-- no list among the data -/
def noLst : PyData → Bool
  | .list _ => false
  | .tuple xs => noLsts xs
  | .dict kvs => noPrs kvs
  | _ => true
def noLsts : List PyData → Bool
  | [] => true
  | d :: ds => noLst d && noLsts ds
def noPrs : List (PyData × PyData) → Bool
  | [] => true
  | (_, d) :: ds => noLst d && noPrs ds
end
theorem noPrs_zip : ∀ {ks ds : List PyData}, ds.length = ks.length → noPrs (ks.zip ds) = true → noLsts ds = true
  | [], [], _, _ => by simp [noLsts]
  | [], d :: ds, h, _ => by simp at h
  | k :: ks, [], h, _ => by simp at h
  | k :: ks, d :: ds, h, q => by
    simp only [List.zip_cons_cons, noPrs, Bool.and_eq_true] at q
    simp only [noLsts, Bool.and_eq_true]
    exact ⟨q.1, noPrs_zip (by simpa using h) q.2⟩
section
variable {X : Cx} {pins : List (Addr × Obj)} {σ : L2.St} {H : Hp} {s : Shared}
theorem readsKeys {P : Program} {w : World} {h : Heap} : ∀ {es : List DictEntry} {vs : List (Key × Value)}, Pairs (mixKind P w) es vs → ReadsAll h (es.map (·.key)) (vs.map fun q => keyP q.1) []
  | _, _, .nil => .nil
  | _, _, .cons (e := e) (kv := kv) h1 h2 h3 => by
    have ih := readsKeys (h := h) h3
    have q : Reads h e.key (keyP kv.1) [] := by
      rcases keyIs_shape h1 with ⟨i, t, e1, e2⟩ | ⟨x, t, e1, e2⟩
      · rw [e1, e2]; exact .int i t
      · rw [e1, e2]; exact .str x t
    exact .cons (as := []) (bs := []) q ih
theorem pairs_vals {P : Program} {w : World} : ∀ {es : List DictEntry} {vs : List (Key × Value)}, Pairs (mixKind P w) es vs → es.map (·.val) = vs.map (·.2)
  | _, _, .nil => rfl
  | _, _, .cons h1 h2 h3 => by rw [List.map_cons, List.map_cons, h2, pairs_vals h3]
theorem kv_keys : ∀ {kvs : List (Key × V)} {vs : List (Key × Value)}, KV kvs vs → kvs.map (fun q => keyP q.1) = vs.map (fun q => keyP q.1)
  | _, _, .nil => rfl
  | _, _, .cons h t => by rw [List.map_cons, List.map_cons, h.1, kv_keys t]
theorem kv_vals : ∀ {kvs : List (Key × V)} {vs : List (Key × Value)}, KV kvs vs → Vals (kvs.map (·.2)) (vs.map (·.2))
  | _, _, .nil => .nil
  | _, _, .cons h t => .cons h.2 (kv_vals t)
mutual
theorem DpX.reads (I : Inv X pins σ H s) : ∀ {d : PyData} {v : V} {u : Value}, DpX X.K H v d → RelV v u → ∃ as, Reads s.heap u d as ∧ (noLst d = true → sysModules ∉ as)
  | _, _, _, .non, r => by cases r; exact ⟨_, .none, fun _ h => nomatch h⟩
  | _, _, _, .bl b, r => by cases r; exact ⟨_, .bool b, fun _ h => nomatch h⟩
  | _, _, _, .int i, r => by obtain ⟨t, rfl⟩ := r; exact ⟨_, .int i t, fun _ h => nomatch h⟩
  | _, _, _, .str x, r => by obtain ⟨t, rfl⟩ := r; exact ⟨_, .str x t, fun _ h => nomatch h⟩
  | _, _, _, .lst hs ha, r => by
    cases r
    obtain ⟨its, rv, ⟨o, n, ho, hc, _, hd⟩, _⟩ := I.list hs
    obtain ⟨as, hr, _⟩ := DpXs.reads I ha rv
    exact ⟨_, .list ho hc hd hr, fun h => by simp [noLst] at h⟩
  | _, _, _, .tup hs ha, r => by
    cases r
    obtain ⟨its, rv, ⟨o, ho, hc, n, hd⟩, _⟩ := I.tuple hs
    obtain ⟨as, hr, hn⟩ := DpXs.reads I ha rv
    exact ⟨_, .tuple ho hc hd hr, fun h => hn (by simpa [noLst] using h)⟩
  | _, _, _, .dct (kvs := kvs) (ds := ds) hs ha, r => by
    cases r
    have hok : ObjOk X.prog X.w H s.heap _ (.dK kvs) := I.hok _ _ hs
    obtain ⟨_, hns, vs, kv, o, es, ep, ho, hc, hd, _, hp, _⟩ := hok
    obtain ⟨as, hr, hn⟩ := DpXs.reads I ha (kv_vals kv)
    have hl : ds.length = (kvs.map fun q => keyP q.1).length := by rw [← ha.length, List.length_map, List.length_map]
    refine ⟨_, .dict (as := []) (bs := as) ho hc.1 hd ?_ ?_, fun h => ?_⟩
    · rw [zip_fst hl, kv_keys kv]; exact readsKeys hp
    · rw [zip_snd hl, pairs_vals hp]; exact hr
    · simp only [noLst] at h
      have h2 := hn (noPrs_zip hl h)
      intro hm
      rcases List.mem_append.mp hm with hm | hm
      · rcases List.mem_cons.mp hm with e | hm
        · rw [← e] at hns; simp at hns
        · exact nomatch hm
      · exact h2 hm
theorem DpXs.reads (I : Inv X pins σ H s) : ∀ {ds : List PyData} {vs : List V} {us : List Value}, DpXs X.K H vs ds → Vals vs us → ∃ as, ReadsAll s.heap us ds as ∧ (noLsts ds = true → sysModules ∉ as)
  | _, _, _, .nil, .nil => ⟨_, .nil, fun _ h => nomatch h⟩
  | _, _, _, .cons h1 h2, .cons r1 r2 => by
    obtain ⟨as, q1, n1⟩ := DpX.reads I h1 r1
    obtain ⟨bs, q2, n2⟩ := DpXs.reads I h2 r2
    refine ⟨_, .cons q1 q2, fun h hm => ?_⟩
    simp only [noLsts, Bool.and_eq_true] at h
    rcases List.mem_append.mp hm with hm | hm
    · exact n1 h.1 hm
    · exact n2 h.2 hm
end
end
def isKy : D → Bool
  | .int _ => true
  | .str _ => true
  | _ => false
theorem isKy_keys : ∀ (kvs : List (Key × V)), (kvs.map fun p => keyD p.1).all isKy = true
  | [] => rfl
  | q :: kvs => by
    have e : isKy (keyD q.1) = true := by
      obtain ⟨k, v⟩ := q
      cases k <;> rfl
    rw [List.map_cons, List.all_cons, e, isKy_keys kvs]
    rfl
theorem isKy_tups : ∀ {kvs : List (List Key × V)}, kvs ≠ [] → (kvs.map fun p => D.tup (p.1.map keyD)).all isKy = false
  | [], h => absurd rfl h
  | q :: kvs, _ => by rw [List.map_cons, List.all_cons]; rfl
mutual
def toX : D → Option PyData
  | .non => some .none
  | .bl b => some (.bool b)
  | .int i => some (.int i)
  | .str x => some (.str x)
  | .tup ds => (toXs ds).map .tuple
  | .lst ds => (toXs ds).map .list
  | .dct ks ds => if ks.all isKy = true then (toXs ks).bind fun a => (toXs ds).map fun b => .dict (a.zip b) else none
  | .scr ns => some (.list (ns.map .int))
  | _ => none
def toXs : List D → Option (List PyData)
  | [] => some []
  | d :: ds => (toX d).bind fun p => (toXs ds).map (p :: ·)
end
section
variable {Γ : Gm} {z : Fz} {H : Hp}
theorem toXs_keys : ∀ (kvs : List (Key × V)), toXs (kvs.map fun p => keyD p.1) = some (kvs.map fun p => keyP p.1)
  | [] => by simp [toXs]
  | q :: kvs => by
    have e : toX (keyD q.1) = some (keyP q.1) := by
      obtain ⟨k, v⟩ := q
      cases k <;> simp only [keyD, keyP, toX]
    rw [List.map_cons, List.map_cons, toXs, e, toXs_keys kvs]
    rfl
theorem dpXs_ints : ∀ ns : List Int, DpXs Γ.K H (ns.map V.int) (ns.map PyData.int)
  | [] => .nil
  | n :: ns => .cons (.int n) (dpXs_ints ns)
mutual
theorem Rep.dpx (sub : ∀ a o, z.G a = some o → H a = some o) : ∀ (d : D) (p : PyData) (v : V), Rep Γ z d v → toX d = some p → DpX Γ.K H v p
  | .non, p, v, h, e => by simp only [toX, Option.some.injEq] at e; subst e; rw [Rep.non.mp h]; exact .non
  | .bl b, p, v, h, e => by simp only [toX, Option.some.injEq] at e; subst e; rw [Rep.bl.mp h]; exact .bl b
  | .int b, p, v, h, e => by simp only [toX, Option.some.injEq] at e; subst e; rw [Rep.int.mp h]; exact .int b
  | .str b, p, v, h, e => by simp only [toX, Option.some.injEq] at e; subst e; rw [Rep.str.mp h]; exact .str b
  | .tup ds, p, v, h, e => by
    simp only [toX, Option.map_eq_some_iff] at e
    obtain ⟨ps, e1, rfl⟩ := e
    obtain ⟨a, vs, rfl, h1, h2⟩ := Rep.tup.mp h
    exact .tup (sqT_mono sub h1) (RepL.dpx sub ds ps vs h2 e1)
  | .lst ds, p, v, h, e => by
    simp only [toX, Option.map_eq_some_iff] at e
    obtain ⟨ps, e1, rfl⟩ := e
    obtain ⟨a, vs, rfl, h1, h2⟩ := Rep.lst.mp h
    exact .lst (.inl (.inl (sub _ _ h1))) (RepL.dpx sub ds ps vs h2 e1)
  | .dct ks ds, p, v, h, e => by
    simp only [Rep] at h
    obtain ⟨a, rfl, ⟨kvs, h1, rfl, h2⟩ | ⟨kvs, h0, h1, rfl, h2⟩⟩ := h
    · rw [toX, if_pos (isKy_keys kvs)] at e
      simp only [toXs_keys, Option.bind_some, Option.map_eq_some_iff] at e
      obtain ⟨ps, e1, rfl⟩ := e
      exact .dct (sub _ _ h1) (RepL.dpx sub ds ps _ h2 e1)
    · rw [toX, if_neg (by rw [isKy_tups h0]; decide)] at e
      cases e
  | .scr ns, p, v, h, e => by
    simp only [toX, Option.some.injEq] at e
    subst e
    obtain ⟨a, rfl, h1⟩ := Rep.scr.mp h
    exact .lst (sqL_mono sub h1) (dpXs_ints ns)
  | .cel n, p, v, h, e => by simp [toX] at e
  | .obj n ds, p, v, h, e => by simp [toX] at e
  | .ins n ds, p, v, h, e => by simp [toX] at e
theorem RepL.dpx (sub : ∀ a o, z.G a = some o → H a = some o) : ∀ (ds : List D) (ps : List PyData) (vs : List V), RepL Γ z ds vs → toXs ds = some ps → DpXs Γ.K H vs ps
  | [], ps, vs, h, e => by
    simp only [toXs, Option.some.injEq] at e
    simp only [RepL] at h
    subst e; subst h
    exact .nil
  | d :: ds, ps, vs, h, e => by
    simp only [toXs, Option.bind_eq_some_iff, Option.map_eq_some_iff] at e
    obtain ⟨p, e1, qs, e2, rfl⟩ := e
    simp only [RepL] at h
    obtain ⟨v, ws, rfl, h1, h2⟩ := h
    exact .cons (Rep.dpx sub d p v h1 e1) (RepL.dpx sub ds qs ws h2 e2)
end
end
def shX (p : PyData) : Bool := p.showable && (decide (p.depth < 60) && ((!p.hasDict || noLst p) && decide (p.shown.length ≤ sizeLine)))
def reprX : List D → Option D
  | [d] => match toX d with
    | some p => if shX p = true then some (.str p.shown) else none
    | none => none
  | _ => none
def rReprX (K : PySem.W.Frag) : List V → Hp → VK → Prop := fun xs H Q => ∃ x p, xs = [x] ∧ DpX K H x p ∧ shX p = true ∧ Q (.str p.shown) H
section
variable {X : Cx} {Γ : Gm} {B : Bs}
theorem call_reprX (hg : X.A.guards = some []) (hu : X.A.units + 64 < cLine) : CallR X (.builtin "repr") (rReprX X.K) := by
  intro pins s σ H xs us Q I rv h
  obtain ⟨x, p, rfl, hd, hs, q⟩ := h
  simp only [shX, Bool.and_eq_true, decide_eq_true_eq, Bool.or_eq_true, Bool.not_eq_true'] at hs
  obtain ⟨s1, s2, s3, s4⟩ := hs
  cases rv with
  | cons r1 r2 =>
    cases r2
    rename_i u
    obtain ⟨as, r, hn⟩ := DpX.reads I hd r1
    have hsm : p.hasDict = true → sysModules ∉ as := fun h => hn (s3.elim (fun z => by rw [z] at h; cases h) id)
    have fin : ∀ h' t tk, (∀ b o, s.heap.get? b = some o → h'.get? b = some o) → EP X pins σ Q (.str p.shown t) { s with heap := h', toks := tk } := fun h' t tk hk => ⟨.str p.shown, H, I.kept hk, ⟨t, rfl⟩, q⟩
    cases hd with
    | non => cases r1; exact P.repr_of_none (fin _ _ _ fun _ _ e => e)
    | bl b => cases r1; exact P.repr_of_bool (fin _ _ _ fun _ _ e => e)
    | int i =>
      obtain ⟨t, rfl⟩ := r1
      exact P.repr_of_int (by simpa [PyData.showable] using s1) (fin _ _ _ fun _ _ e => e)
    | str y =>
      obtain ⟨t, rfl⟩ := r1
      exact P.repr_of_str (fin _ _ _ fun _ _ e => e) s4
    | lst h1 h2 => cases r1; exact repr_of_reads' r s1 hsm hg (by omega) (fun _ _ e => e) fin s4
    | tup h1 h2 => cases r1; exact repr_of_reads' r s1 hsm hg (by omega) (fun _ _ e => e) fin s4
    | dct h1 h2 => cases r1; exact repr_of_reads' r s1 hsm hg (by omega) (fun _ _ e => e) fin s4
theorem cz_reprX : CallZ Γ B (rReprX Γ.K) reprX := by
  intro z m σ H ds c xs Q rl rd hc q
  unfold reprX at hc
  split at hc
  · split at hc
    · rename_i d p hp
      split at hc
      · rename_i hs
        cases hc
        obtain ⟨v, rfl, h⟩ := rd.one
        exact ⟨v, p, rfl, Rep.dpx rl.rf.sub _ _ _ h hp, hs, q z _ H (Ext.refl _) rl (Rep.str.mpr rfl)⟩
      · cases hc
    · cases hc
  · cases hc
theorem breprX {k : Nat} (hr : Room k X.A) (hgd : X.A.guards = some []) (hK : X.K = Γ.K := by rfl) : BlZ X Γ "repr" reprX := ⟨.inl ⟨_, _, call_reprX hgd (by have := hr.un; omega), by rfl, fun _ => hK ▸ cz_reprX⟩⟩
end
end Z

set_option Elab.async false
set_option linter.all false
set_option maxRecDepth 100000
set_option maxHeartbeats 4000000
/-! Z24: the head's hook with tables, classes; rules as the printer uses them, further -/
namespace Z
open PySem PySem.Spec PyProof.Rows L2 RZ
abbrev AlY : Type := (He.AlD × IniW) × Bool
abbrev frY (n : Nat) (g : Addr → Option Obj) : PySem.W.Frag := He.frT g (cStatics :: He.asD g n)
def obsY (n : Nat) (fa : List He.Fa) (fn : List He.DefD) (tf : List He.Defn) (ex : PySem.W.Frag → Bool) (g : Addr → Option Obj) : AlY :=
  ((He.obsD fa fn (frY n g), iniW (frY n g)), ex (frY n g) && He.tabsB g tf (frY n g))
structure SaysY (fa : List He.Fa) (fn : List He.DefD) (ini : IniW) (tf : List He.Defn) (ex : PySem.W.Frag → Bool) (h : Heap) (K : PySem.W.Frag) : Prop where
  d : He.SaysD fa fn K
  i : iniW K = ini
  more : ex K = true
  hd : ∀ p ∈ tf, PySem.W.codeHdIn K (He.cT K p).1 (He.cT K p).2 = true
  out : ∀ p ∈ tf, K.lookup (He.cT K p).2 = none
  empty : ∀ p ∈ tf, h.get? (He.cT K p).2 = some { cls := .none, data := .fields #[] }
theorem saysY_of {n : Nat} {fa : List He.Fa} {fn : List He.DefD} {ini : IniW} {tf : List He.Defn} {ex : PySem.W.Frag → Bool} {h : Heap} (e : obsY n fa fn tf ex h.get? = ((He.valD fn, ini), true)) : SaysY fa fn ini tf ex h (frY n h.get?) := by
  have e1 : He.obsD fa fn (frY n h.get?) = He.valD fn := congrArg (fun z : AlY => z.1.1) e
  have e2 : iniW (frY n h.get?) = ini := congrArg (fun z : AlY => z.1.2) e
  have e3 : (ex (frY n h.get?) && He.tabsB h.get? tf (frY n h.get?)) = true := congrArg (fun z : AlY => z.2) e
  obtain ⟨h1, h2⟩ := He.ba e3
  have key : ∀ p ∈ tf, PySem.W.codeHdIn (frY n h.get?) (He.cT (frY n h.get?) p).1 (He.cT (frY n h.get?) p).2 = true ∧ ∃ o, h.get? (He.cT (frY n h.get?) p).2 = some o ∧ He.emptyTab o = true := fun p hp => by
    obtain ⟨h3, h4⟩ := He.ba (List.all_eq_true.mp h2 p hp)
    refine ⟨h3, ?_⟩
    split at h4
    · rename_i o q
      exact ⟨o, q, h4⟩
    · cases h4
  exact ⟨e1, e2, h1, fun p hp => (key p hp).1, fun p hp => by
    obtain ⟨_, o, q, z⟩ := key p hp
    exact He.frT_none q z, fun p hp => by
    obtain ⟨_, o, q, z⟩ := key p hp
    rw [q, He.emptyTab_eq z]⟩
def hookY (n : Nat) (fa : List He.Fa) (fn : List He.DefD) (ini : IniW) (tf : List He.Defn) (ex : PySem.W.Frag → Bool) : PySem.W.Hook where
  α := AlY
  obs := fun s => obsY n fa fn tf ex s.heap.get?
  val := fun _ => ((He.valD fn, ini), true)
  says := fun _ h => ∃ K : PySem.W.Frag, K.In h ∧ SaysY fa fn ini tf ex h K
  of := fun _ _ e => ⟨_, He.frT_in, saysY_of e⟩
  keeps := fun _ _ _ ⟨K, hK, c⟩ k => ⟨K, PySem.W.Frag.In.keeps hK k, ⟨c.d, c.i, c.more, c.hd, c.out, fun p hp => k _ _ (c.empty p hp)⟩⟩
theorem obsY_eq {n : Nat} {fa : List He.Fa} {fn : List He.DefD} {ini : IniW} {tf : List He.Defn} {ex : PySem.W.Frag → Bool} {g : Addr → Option Obj} {s : Shared} (h : ∀ a, g a = s.heap.get? a) : obsY n fa fn tf ex g = (hookY n fa fn ini tf ex).obs s := by
  have e : g = s.heap.get? := funext h
  rw [e] <;> rfl
/-- what is asked besides: data, errors and which are of which class, the tables stand apart -/
def exY (cs : List (Str × D)) (file : Str) (ec : List Str) (iso : List (Str × List Bool)) (isb : List (String × List Bool)) (tf : List He.Defn) (K : PySem.W.Frag) : Bool :=
  cs.all (conZ K) && (errsB K file ec && ((ec.all fun x => xcB K (He.ga K x)) && ((iso.all fun p => He.eqO (PySem.W.nsIn K mainGlobals p.1) (some (some (.ref (He.ga K p.1)))) && istB K ec (.ref (He.ga K p.1)) p.2) && ((isb.all fun p => He.eqO (PySem.W.nsIn K mainGlobals p.1) (some none) && istB K ec (.type p.1) p.2) && ((tf.map fun p => (He.cT K p).2).eraseDups.length == tf.length)))))
structure MoreY (cs : List (Str × D)) (file : Str) (ec : List Str) (iso : List (Str × List Bool)) (isb : List (String × List Bool)) (tf : List He.Defn) (K : PySem.W.Frag) : Prop where
  con : ∀ q ∈ cs, conZ K q = true
  err : errsB K file ec = true
  xc : ∀ x ∈ ec, xcB K (He.ga K x) = true
  iso : ∀ p ∈ iso, PySem.W.nsIn K mainGlobals p.1 = some (some (.ref (He.ga K p.1))) ∧ istB K ec (.ref (He.ga K p.1)) p.2 = true
  isb : ∀ p ∈ isb, PySem.W.nsIn K mainGlobals p.1 = some none ∧ istB K ec (.type p.1) p.2 = true
  tabs : ((tf.map fun p => (He.cT K p).2).eraseDups.length == tf.length) = true
theorem moreY {cs : List (Str × D)} {file : Str} {ec : List Str} {iso : List (Str × List Bool)} {isb : List (String × List Bool)} {tf : List He.Defn} {K : PySem.W.Frag} (h : exY cs file ec iso isb tf K = true) : MoreY cs file ec iso isb tf K := by
  unfold exY at h
  simp only [Bool.and_eq_true, List.all_eq_true] at h
  obtain ⟨h1, h2, h3, h4, h5, h6⟩ := h
  exact ⟨h1, h2, h3, fun p hp => ⟨He.eqO_ok (h4 p hp).1, (h4 p hp).2⟩, fun p hp => ⟨He.eqO_ok (h5 p hp).1, (h5 p hp).2⟩, h6⟩
/-- the tables by the defs' names -/
def tabsY (K : PySem.W.Frag) (tf : List He.Defn) : List (Addr × Str) := tf.map fun p => ((He.cT K p).2, p.1 ++ ".<locals>." ++ "<lambda>")
/-- what the maker of a lambda is told: f a def whose name is q -/
structure LamF (Γ : Gm) (mg : Str → Option Value) (base : Heap) (fd : FuncData) (q : Str) : Prop where
  ex : ∃ c P, fd.code = .ref c ∧ LamX.TabB base mg c P ∧ (P, q ++ ".<locals>." ++ "<lambda>") ∈ Γ.T ∧ ∀ p ∈ Γ.T, p.1 = P → p.2 = q ++ ".<locals>." ++ "<lambda>"
section
variable {Γ : Gm} {P : Program} {w : World} {mg : Str → Option Value} {base : Heap} {x q : Str} {params : Arguments} {body : List Stmt} {sc : Scope} {dvs : List V} {kws : List (Str × V)} {f : Addr} {fd : FuncData} {N ps : List Str} {n k : Nat} {g : DenS} {dfl : List D}
theorem okZL (F : FunD Γ.K x q params body sc dvs kws f fd) (S : FnScope N ps sc) (hn : n = ps.length)
    (hb : ∀ (cdv : Value) (A : Around) (outer : List Env) (s : Shared) (H : Hp) (E : XK) (z : Fz), A.guards = some [] → Room k (A.deeper (envOfC q sc s.heap.objs.size f cdv)) → fd.code = cdv →
      PSs (cxOf (L2.CX P w) P w Γ.K mg base N q sc f cdv A outer s H E) body (tS Γ ⟨H, z, [], 0, false⟩ (fun c d _ H => E c d H) g)) : FnG P w Γ.K mg base (k + 1) f fd ps (spZ Γ n (bodyFn N n g)) := by
  obtain ⟨oc, od, dV, kV, doc, pm, an, cdv, ct, osl, rfl, lk, hcd, _, _⟩ := F.ex
  refine fnG_of lk hcd S (fun vs H Q E h => by rw [← hn]; exact h.1) fun A outer s H vs Q E hg hr h => ?_
  obtain ⟨z, hz⟩ := body_conv h
  exact ⟨_, hb cdv A outer s H E z hg hr rfl, hz⟩
theorem calOfL (F : FunD Γ.K x q params body sc dvs kws f fd) (hm : mg x = some (.ref f)) (S : FnScope N ps sc) (hn : n = ps.length)
    (hb : ∀ (cdv : Value) (A : Around) (outer : List Env) (s : Shared) (H : Hp) (E : XK) (z : Fz), A.guards = some [] → Room k (A.deeper (envOfC q sc s.heap.objs.size f cdv)) → fd.code = cdv →
      PSs (cxOf (L2.CX P w) P w Γ.K mg base N q sc f cdv A outer s H E) body (tS Γ ⟨H, z, [], 0, false⟩ (fun c d _ H => E c d H) g))
    (hd : ∀ j, j ≤ dfl.length → ∃ ds dvs, Binds Γ.K fd ps ds ∧ Vals dvs ds ∧ ∀ z, RepL Γ z (dfl.drop j) dvs) : Cal Γ P w mg base x (k + 1) n dfl (bodyFn N n g) :=
  ⟨f, fd, ps, okZL F S hn hb, hm, F.kp, hd⟩
/-- a def of which nothing is promised -/
def badFn : Fn := fun _ _ => .bad
theorem calBad (F : FunD Γ.K x q params body sc dvs kws f fd) (hm : mg x = some (.ref f)) (hd : ∀ j, j ≤ dfl.length → ∃ ds dvs, Binds Γ.K fd ps ds ∧ Vals dvs ds ∧ ∀ z, RepL Γ z (dfl.drop j) dvs) : Cal Γ P w mg base x k n dfl badFn :=
  ⟨f, fd, ps, ⟨fun vs H Q E ⟨_, _, _, _, _, _, h⟩ => h.elim, fun A outer s H args us vs Q E _ _ _ _ _ ⟨_, _, _, _, _, _, h⟩ => h.elim⟩, hm, F.kp, hd⟩
theorem lamT_of {cdv : Value} {A : Around} {outer : List Env} {s : Shared} {H : Hp} {E : XK} (L : LamF Γ mg base fd q) (h : fd.code = cdv) : LamT Γ (cxOf (L2.CX P w) P w Γ.K mg base N q sc f cdv A outer s H E) := by
  obtain ⟨c, T, e, tb, hm, hu⟩ := L.ex
  exact ⟨c, T, tb, h.symm.trans e, hm, hu⟩
end
section
variable {Γ : Gm} {K : PySem.W.Frag} {h : Heap} {fa : List He.Fa} {fn : List He.DefD} {ini : IniW} {tf : List He.Defn} {ex : PySem.W.Frag → Bool}
theorem tabsAt_of (X : K.In h) (c : SaysY fa fn ini tf ex h K) : TabsAt K h (tf.map (He.cT K)) := by
  refine ⟨fun p hp => ?_, fun p hp => ?_, fun p hp => ?_⟩ <;> obtain ⟨q, hq, rfl⟩ := List.mem_map.mp hp
  · exact c.empty q hq
  · exact c.out q hq
  · exact PySem.W.codeHd_of_K X (c.hd q hq)
theorem dups_le {α : Type} [BEq α] [LawfulBEq α] : ∀ (l : List α), l.eraseDups.length ≤ l.length
  | [] => by simp
  | a :: l => by
    rw [List.eraseDups_cons, List.length_cons, List.length_cons]
    have h1 := dups_le (l.filter fun b => !b == a)
    have h2 := List.length_filter_le (fun b => !b == a) l
    omega
  termination_by l => l.length
  decreasing_by
    have := List.length_filter_le (fun b => !b == a) l
    simp only [List.length_cons]; omega
theorem nodup_dups {α : Type} [BEq α] [LawfulBEq α] : ∀ (l : List α), l.eraseDups.length = l.length → l.Nodup
  | [], _ => List.Pairwise.nil
  | a :: l, h => by
    rw [List.eraseDups_cons, List.length_cons, List.length_cons] at h
    have h1 := dups_le (l.filter fun b => !b == a)
    have h2 := List.length_filter_le (fun b => !b == a) l
    have e : (l.filter fun b => !b == a).length = l.length := by omega
    have e2 : l.filter (fun b => !b == a) = l := List.filter_eq_self.mpr (List.length_filter_eq_length_iff.mp e)
    rw [e2] at h
    refine List.nodup_cons.mpr ⟨fun hm => ?_, nodup_dups l (by omega)⟩
    have := List.filter_eq_self.mp e2 a hm
    simp at this
theorem lamF_of {mg : Str → Option Value} {base : Heap} {fd : FuncData} {q : Str} {params : Arguments} {body : List Stmt} {sc : Scope} {dvs : List V} {kws : List (Str × V)} (hT : Γ.T = tabsY Γ.K tf) (hn : ((tf.map fun p => (He.cT Γ.K p).2).eraseDups.length == tf.length) = true)
    (hb : ∀ p ∈ tf.map (He.cT Γ.K), LamX.TabB base mg p.1 p.2) (F : FunD Γ.K q q params body sc dvs kws (He.fAd Γ.K (q, none)) fd) (hm : (q, none) ∈ tf) : LamF Γ mg base fd q := by
  obtain ⟨oc, od, dV, kV, doc, pm, an, cdv, ct, osl, rfl, lk, hcd, _, _⟩ := F.ex
  obtain ⟨c, rfl⟩ := He.codeIn_ref hcd
  have e : He.codeOf Γ.K (q, none) = c := He.codeOf_eq lk rfl
  have nd : (tf.map fun p => (He.cT Γ.K p).2).Nodup := nodup_dups _ (by rw [List.length_map]; simpa using hn)
  refine ⟨c, (He.cT Γ.K (q, none)).2, rfl, ?_, ?_, fun p hp ep => ?_⟩
  · have := hb _ (List.mem_map.mpr ⟨(q, none), hm, rfl⟩)
    rw [show (He.cT Γ.K (q, none)).1 = c from e] at this
    exact this
  · rw [hT]
    exact List.mem_map.mpr ⟨(q, none), hm, rfl⟩
  · rw [hT] at hp
    obtain ⟨r, hr, rfl⟩ := List.mem_map.mp hp
    have key : ∀ (l : List He.Defn) (a b : He.Defn), (l.map fun p => (He.cT Γ.K p).2).Nodup → a ∈ l → b ∈ l → (He.cT Γ.K a).2 = (He.cT Γ.K b).2 → a = b := by
      intro l
      induction l with
      | nil => intro a b _ h1; cases h1
      | cons x l ih =>
        intro a b h h1 h2 he
        rw [List.map_cons, List.nodup_cons] at h
        rcases List.mem_cons.mp h1 with e1 | h1 <;> rcases List.mem_cons.mp h2 with e2 | h2
        · rw [e1, e2]
        · exact absurd (List.mem_map.mpr ⟨b, h2, by rw [← he, e1]⟩) h.1
        · exact absurd (List.mem_map.mpr ⟨a, h1, by rw [he, e2]⟩) h.1
        · exact ih a b h.2 h1 h2 he
    rw [key tf r (q, none) nd hr hm ep]
end
theorem err_at {Γ : Gm} {h : Heap} {mg : Str → Option Value} {file : Str} {ec : List Str} {x : Str} (cB : errsB Γ.K file ec = true) (X : Γ.K.In h) (G : h.Ns mainGlobals mg) (hx : x ∈ ec) : mg x = some (.ref (He.ga Γ.K x)) := by
  unfold errsB at cB
  simp only [Bool.and_eq_true, decide_eq_true_eq, List.all_eq_true] at cB
  exact PySem.W.mg_of X G (He.eqO_ok (cB.2.2.2.2.2 x hx).1)
/-! ### rules with their side conditions -/
section
variable {Γ : Gm} {B : Bs} {W : WX} {X : Cx} {k : Nat} {x : Str} {p pos pos2 : Pos} {e a b : Expr} {f g h : Den}
theorem sraise {c k' : Nat} (Er : Erc Γ X.prog X.w X.mg X.base x c) (tk : Takes X W) (hr : Room k' X.A) (hk : 2 ≤ k') (ha : PE X e (tE Γ B W f)) (hK : X.K = Γ.K := by rfl) (hc : X.calm = true := by rfl) (hg : Gl X x := by rfl) (hdb : (x == ("__debug__" : Str)) = false := by decide) (he : starEach [e] X.env = (false, eval e X.env) :: starEach [] X.env := by rfl) (hpl : (backTo pos (starEach [] X.env)).any (·.1) = false := by rfl) :
    PS X (.Raise (some (.Call (.Name x p) [e] [] pos)) none pos2) (tS Γ B W (zraise c f)) := z_raise Er hK hc (hr.mono hk) tk hg ha hdb he hpl
theorem qheard {k' : Nat} {params : Arguments} {body : Expr} {scope : Scope} {lpos : Pos} {fden : Den} (Hd : Hrd Γ X.mg) (Lm : LamT Γ X) (hgd : X.A.guards = some []) (hr : Room k' X.A) (hk : k + 2 ≤ k')
    (hbody : ∀ (A : Around) (outer : List Env) (s : Shared) (H : Hp) (E : XK) (f c : Addr), A.guards = some [] → Room k (A.deeper (LamX.lamEnv X scope s.heap.objs.size f c)) → PE (LamX.lamCx X A outer s H E scope f c) body (tE Γ B (fun c d _ H => E c d H) fden))
    (hK : X.K = Γ.K := by rfl) (hg : Gl X "_law_heard" := by rfl) (L : LamX.lamSB X.env.scope scope = true := by rfl) (hdef : defaultsOf params X.env = ([], []) := by rfl)
    (hbind : ∀ (q : Str) (cl : List (Str × Addr)) (pm cv ctv : Value), bindArgs (PySem.W.kla_fn "<lambda>" q params body scope cl pm cv ctv) ⟨[], []⟩ = pure [] := by intro _ _ _ _ _; rfl) :
    PE X (.Call (.Name "_law_heard" p) [.Lambda params body scope lpos] [] pos) (tE Γ B W (zheard fden)) := z_heard Hd Lm hK hg hgd (hr.mono hk) (LamX.lamS_by L) hdef hbind hbody
theorem takesLam {A : Around} {outer : List Env} {s : Shared} {H : Hp} {E : XK} {scope : Scope} {f c : Addr} : Takes (LamX.lamCx X A outer s H E scope f c) (fun c d _ H => E c d H) := takes_of rfl rfl rfl rfl
theorem MoreY.xcs {cs : List (Str × D)} {file : Str} {ec : List Str} {iso : List (Str × List Bool)} {isb : List (String × List Bool)} {tf : List He.Defn} (c : MoreY cs file ec iso isb tf Γ.K) (hcl : Γ.cls = clsOf Γ.K ec) (h0 : ec[0]? = some ("TieError" : Str)) : ∀ n, XcC Γ.K (Γ.cls n) := fun n => by
  rw [hcl]
  refine xcB_ok (c.xc _ ?_)
  by_cases hn : n < ec.length
  · rw [List.getD_eq_getElem?_getD, List.getElem?_eq_getElem hn]
    exact List.getElem_mem hn
  · rw [List.getD_eq_getElem?_getD, List.getElem?_eq_none (by omega)]
    exact List.mem_of_getElem? h0
theorem MoreY.exms {cs : List (Str × D)} {file : Str} {ec : List Str} {iso : List (Str × List Bool)} {isb : List (String × List Bool)} {tf : List He.Defn} (c : MoreY cs file ec iso isb tf Γ.K) (hcl : Γ.cls = clsOf Γ.K ec) (h0 : ec[0]? = some ("TieError" : Str)) : ∀ n, PySem.W.exmOne Γ.K (.ref (Γ.cls n)) (.ref (He.ga Γ.K "TieError")) = some true := fun n => by
  rw [hcl]
  refine exm_of c.err ?_
  by_cases hn : n < ec.length
  · rw [List.getD_eq_getElem?_getD, List.getElem?_eq_getElem hn]
    exact List.getElem_mem hn
  · rw [List.getD_eq_getElem?_getD, List.getElem?_eq_none (by omega)]
    exact List.mem_of_getElem? h0
/-- a class among the errors, by its name -/
structure IsN (Γ : Gm) (mg : Str → Option Value) (x : Str) (t : Nat → Bool) : Prop where
  ex : (∃ C, mg x = some (.ref C) ∧ IsT Γ (.ref C) t) ∨ (∃ T, mg x = none ∧ bootBuiltins x = some (.type T) ∧ x ≠ "__name__" ∧ IsT Γ (.type T) t)
theorem isn_own {hp : Heap} {mg : Str → Option Value} {cs : List (Str × D)} {file : Str} {ec : List Str} {iso : List (Str × List Bool)} {isb : List (String × List Bool)} {tf : List He.Defn} {ts : List Bool} (c : MoreY cs file ec iso isb tf Γ.K) (X : Γ.K.In hp) (G : hp.Ns mainGlobals mg) (hcl : Γ.cls = clsOf Γ.K ec) (h0 : ec[0]? = some ("TieError" : Str)) (hi : (x, ts) ∈ iso) (hl : ec.length = ts.length) : IsN Γ mg x (istOf ts) :=
  ⟨.inl ⟨_, PySem.W.mg_of X G (c.iso _ hi).1, isT_of hcl h0 hl (c.iso _ hi).2⟩⟩
theorem isn_blt {hp : Heap} {mg : Str → Option Value} {cs : List (Str × D)} {file : Str} {ec : List Str} {iso : List (Str × List Bool)} {isb : List (String × List Bool)} {tf : List He.Defn} {ts : List Bool} {T : String} (c : MoreY cs file ec iso isb tf Γ.K) (X : Γ.K.In hp) (G : hp.Ns mainGlobals mg) (hcl : Γ.cls = clsOf Γ.K ec) (h0 : ec[0]? = some ("TieError" : Str)) (hi : (T, ts) ∈ isb) (hl : ec.length = ts.length) (hb : bootBuiltins T = some (.type T)) (hn : (T : Str) ≠ "__name__") : IsN Γ mg T (istOf ts) :=
  ⟨.inr ⟨T, PySem.W.mg_none_of X G (c.isb _ hi).1, hb, hn, isT_of hcl h0 hl (c.isb _ hi).2⟩⟩
theorem qisc {t : Nat → Bool} {p2 : Pos} (M : Bn X.mg) (hx : ∀ n, XcC Γ.K (Γ.cls n)) (I : IsN Γ X.mg x t) (ha : PE X e (tE Γ B W f)) (hK : X.K = Γ.K := by rfl) (hg : Gl X "isinstance" := by rfl) (hg2 : Gl X x := by rfl) (hdb : (x == ("__debug__" : Str)) = false := by decide)
    (he : starEach [e, .Name x p2] X.env = (false, eval e X.env) :: starEach [.Name x p2] X.env := by rfl) (he2 : starEach [.Name x p2] X.env = (false, eval (.Name x p2) X.env) :: starEach [] X.env := by rfl) (hpl : (backTo pos (starEach [.Name x p2] X.env)).any (·.1) = false := by rfl) :
    PE X (.Call (.Name "isinstance" p) [e, .Name x p2] [] pos) (tE Γ B W (zisc t f)) := by
  rcases I.ex with ⟨C, h1, h2⟩ | ⟨T, h1, h3, h4, h2⟩
  · exact z_isc hK hx (.own C) h2 hg (M _ (by decide)) (by rfl) (pe_glob hg2 h1 rfl hdb) ha he he2 hpl
  · exact z_isc hK hx (.ty T) h2 hg (M _ (by decide)) (by rfl) (pe_bltn hg2 h1 h3 rfl h4 hdb) ha he he2 hpl
theorem qval (hx : ∀ n, XcC Γ.K (Γ.cls n)) (ha : PE X e (tE Γ B W f)) (hK : X.K = Γ.K := by rfl) (hb : attributeBase e "value" X.env (eval e X.env) = eval e X.env := by rfl) : PE X (.Attribute e "value" pos) (tE Γ B W (zval f)) := z_val hK hx ha hb
theorem qdct {keys : List (Option Expr)} {values : List Expr} {ks : List Str} {fs : DenL} (h : PDs X Γ W pos keys values ks fs) (h0 : ks ≠ [] := by decide) (hn : ks.Nodup := by decide) (h15 : ks.length ≤ 15 := by decide) : PE X (.Dict keys values pos) (tE Γ B W (zdct ks fs)) := z_dct h h0 hn h15
end
end Z

set_option Elab.async false
set_option linter.all false
set_option maxRecDepth 100000
set_option maxHeartbeats 4000000
/-! Z24b: == and != where lengths alone tell -/
namespace Z
open PySem PySem.Spec PyProof.Rows L2 RZ
/-- lengths alone tell whether two lists, or a tuple and an empty one, are equal -/
def lenEq : D → D → Option Bool
  | .lst xs, .lst ys => if xs.length = ys.length then (if xs.length = 0 then some true else none) else some false
  | .tup xs, .tup ys => if xs.length = 0 ∨ ys.length = 0 then some (decide (xs.length = ys.length)) else none
  | _, _ => none
def eqX (d e : D) : Option D := match lenEq d e with
  | some b => some (.bl b)
  | none => eqD d e
def neX (d e : D) : Option D := match lenEq d e with
  | some b => some (.bl !b)
  | none => neD d e
def rLenE (K : PySem.W.Frag) (g : Bool → Bool) : R2 := fun x y H Q => ∃ (a b : Addr) (xs ys : List V), x = .ref a ∧ y = .ref b ∧ (((SqL K H a xs ∧ SqL K H b ys) ∧ (xs.length = ys.length → xs.length = 0)) ∨ ((SqT K H a xs ∧ SqT K H b ys) ∧ (xs.length = 0 ∨ ys.length = 0))) ∧ Q (.bl (g (decide (xs.length = ys.length)))) H
section
variable {X : Cx} {Γ : Gm} {B : Bs}
theorem op_lenE (hu : X.A.units < cLine) : OpR X (compareOp .Eq) (rLenE X.K id) := by
  intro pins s σ H x y v u Q I rx ry h
  obtain ⟨a, b, xs, ys, rfl, rfl, k, q⟩ := h
  obtain rfl : v = Value.ref a := rx
  obtain rfl : u = Value.ref b := ry
  rcases k with ⟨⟨h1, h2⟩, h3⟩ | ⟨⟨h1, h2⟩, h3⟩
  · obtain ⟨its, rv, ⟨o, n, ho, hc, _, hd⟩, _⟩ := I.list h1
    obtain ⟨its2, rv2, ⟨o2, n2, ho2, hc2, _, hd2⟩, _⟩ := I.list h2
    have l1 : its.length = xs.length := rv.length.symm
    have l2 : its2.length = ys.length := rv2.length.symm
    by_cases e : xs.length = ys.length
    · have e0 := h3 e
      refine SeqAt.eq_listAt (e := fun _ => true) (items := its.toArray) (items2 := its2.toArray) ⟨o, ho, hc, n, hd⟩ ⟨o2, ho2, hc2, n2, hd2⟩ (by simp; omega) hu (fun j j1 => by simp at j1; omega) ⟨.bl true, H, I, ?_, ?_⟩
      · show Value.bool ((List.range its.toArray.size).all fun _ => true) = .bool true
        simp
      · rw [decide_eq_true e] at q
        exact q
    · refine SeqAt.eq_list_lengthsAt (items := its.toArray) (items2 := its2.toArray) ⟨o, ho, hc, n, hd⟩ ⟨o2, ho2, hc2, n2, hd2⟩ (by simp; omega) hu ⟨.bl false, H, I, rfl, ?_⟩
      rw [decide_eq_false e] at q
      exact q
  · obtain ⟨its, rv, ⟨o, ho, hc, n, hd⟩, _⟩ := I.tuple h1
    obtain ⟨its2, rv2, ⟨o2, ho2, hc2, n2, hd2⟩, _⟩ := I.tuple h2
    have l1 : its.length = xs.length := rv.length.symm
    have l2 : its2.length = ys.length := rv2.length.symm
    refine SeqAt.eq_tupleAt (e := fun _ => true) (items := its.toArray) (items2 := its2.toArray) ⟨o, ho, hc, n, hd⟩ ⟨o2, ho2, hc2, n2, hd2⟩ hu (fun j j1 j2 => by simp at j1 j2; omega) ⟨.bl (decide (xs.length = ys.length)), H, I, ?_, q⟩
    show Value.bool _ = .bool _
    have : ((List.range (min its.toArray.size its2.toArray.size)).all (fun _ => true) && its.toArray.size == its2.toArray.size) = decide (xs.length = ys.length) := by
      simp only [List.size_toArray, l1, l2]
      rw [show min xs.length ys.length = 0 by omega]
      rfl
    rw [this]
theorem op_lenN (hu : X.A.units < cLine) : OpR X (compareOp .NotEq) (rLenE X.K (!·)) := by
  intro pins s σ H x y v u Q I rx ry h
  obtain ⟨a, b, xs, ys, rfl, rfl, k, q⟩ := h
  obtain rfl : v = Value.ref a := rx
  obtain rfl : u = Value.ref b := ry
  rcases k with ⟨⟨h1, h2⟩, h3⟩ | ⟨⟨h1, h2⟩, h3⟩
  · obtain ⟨its, rv, ⟨o, n, ho, hc, _, hd⟩, _⟩ := I.list h1
    obtain ⟨its2, rv2, ⟨o2, n2, ho2, hc2, _, hd2⟩, _⟩ := I.list h2
    have l1 : its.length = xs.length := rv.length.symm
    have l2 : its2.length = ys.length := rv2.length.symm
    by_cases e : xs.length = ys.length
    · have e0 := h3 e
      have r := SeqAt.RcNeAt.lists (A := X.A) (s := s) (e := fun _ => true) (items := its.toArray) (items2 := its2.toArray) ⟨o, ho, hc, n, hd⟩ ⟨o2, ho2, hc2, n2, hd2⟩ (by simp; omega) hu (fun j j1 => by simp at j1; omega)
      refine r _ _ _ _ ⟨.bl false, H, I, ?_, ?_⟩
      · show Value.bool _ = .bool false
        simp
      · rw [decide_eq_true e] at q
        exact q
    · have r := SeqAt.RcNeAt.lists_lengths (A := X.A) (s := s) (items := its.toArray) (items2 := its2.toArray) ⟨o, ho, hc, n, hd⟩ ⟨o2, ho2, hc2, n2, hd2⟩ (by simp; omega) hu
      refine r _ _ _ _ ⟨.bl true, H, I, rfl, ?_⟩
      rw [decide_eq_false e] at q
      exact q
  · obtain ⟨its, rv, ⟨o, ho, hc, n, hd⟩, _⟩ := I.tuple h1
    obtain ⟨its2, rv2, ⟨o2, ho2, hc2, n2, hd2⟩, _⟩ := I.tuple h2
    have l1 : its.length = xs.length := rv.length.symm
    have l2 : its2.length = ys.length := rv2.length.symm
    have r := SeqAt.RcNeAt.tuples (A := X.A) (s := s) (e := fun _ => true) (items := its.toArray) (items2 := its2.toArray) ⟨o, ho, hc, n, hd⟩ ⟨o2, ho2, hc2, n2, hd2⟩ hu (fun j j1 j2 => by simp at j1 j2; omega)
    refine r _ _ _ _ ⟨.bl (!decide (xs.length = ys.length)), H, I, ?_, q⟩
    show Value.bool _ = .bool _
    have : ((List.range (min its.toArray.size its2.toArray.size)).all (fun _ => true) && its.toArray.size == its2.toArray.size) = decide (xs.length = ys.length) := by
      simp only [List.size_toArray, l1, l2]
      rw [show min xs.length ys.length = 0 by omega]
      rfl
    rw [this]
theorem lenE_of {g : Bool → Bool} {z : Fz} {m : M} {σ : L2.St} {H : Hp} {d e : D} {x y : V} {b : Bool} {Q : VK} (rl : Rl Γ B z m σ H) (rd : Rep Γ z d x) (re : Rep Γ z e y) (h : lenEq d e = some b) (q : Q (.bl (g b)) H) : rLenE Γ.K g x y H Q := by
  unfold lenEq at h
  split at h
  · rename_i xs ys
    obtain ⟨a, vs, rfl, h1, h2⟩ := Rep.lst.mp rd
    obtain ⟨a2, vs2, rfl, k1, k2⟩ := Rep.lst.mp re
    have l1 := h2.length
    have l2 := k2.length
    refine ⟨a, a2, vs, vs2, rfl, rfl, .inl ⟨⟨.inl (.inl (rl.rf.sub _ _ h1)), .inl (.inl (rl.rf.sub _ _ k1))⟩, fun e => ?_⟩, ?_⟩
    · split at h
      · split at h
        · omega
        · cases h
      · omega
    · split at h
      · split at h
        · cases h
          rw [decide_eq_true (by omega)]; exact q
        · cases h
      · cases h
        rw [decide_eq_false (by omega)]; exact q
  · rename_i xs ys
    obtain ⟨a, vs, rfl, h1, h2⟩ := Rep.tup.mp rd
    obtain ⟨a2, vs2, rfl, k1, k2⟩ := Rep.tup.mp re
    have l1 := h2.length
    have l2 := k2.length
    split at h
    · rename_i h0
      cases h
      refine ⟨a, a2, vs, vs2, rfl, rfl, .inr ⟨⟨rl.sqT h1, rl.sqT k1⟩, by omega⟩, ?_⟩
      rw [← l1, ← l2]
      exact q
    · cases h
  · cases h
theorem oz_eqX : OpZ Γ B (fun x y H Q => rEqZ Γ.K x y H Q ∨ rLenE Γ.K id x y H Q) eqX := by
  intro z m σ H d e c x y Q rl rd re hc q
  unfold eqX at hc
  split at hc
  · rename_i b hb
    cases hc
    exact .inr (lenE_of rl rd re hb (q z _ H (Ext.refl _) rl (Rep.bl.mpr rfl)))
  · exact .inl (oz_eq z m σ H d e c x y Q rl rd re hc q)
theorem oz_neX : OpZ Γ B (fun x y H Q => rNeZ Γ.K x y H Q ∨ rLenE Γ.K (!·) x y H Q) neX := by
  intro z m σ H d e c x y Q rl rd re hc q
  unfold neX at hc
  split at hc
  · rename_i b hb
    cases hc
    exact .inr (lenE_of (g := (!·)) rl rd re hb (q z _ H (Ext.refl _) rl (Rep.bl.mpr rfl)))
  · exact .inl (oz_ne z m σ H d e c x y Q rl rd re hc q)
theorem ceqX {k : Nat} (hr : Room k X.A) (hK : X.K = Γ.K := by rfl) : CmZ X Γ .Eq eqX := ⟨_, OpR.or (op_eqZ (by have := hr.un; omega)) (op_lenE (by have := hr.un; omega)), fun _ => hK ▸ oz_eqX⟩
theorem cneX {k : Nat} (hr : Room k X.A) (hK : X.K = Γ.K := by rfl) : CmZ X Γ .NotEq neX := ⟨_, OpR.or (op_neZ (by have := hr.un; omega)) (op_lenN (by have := hr.un; omega)), fun _ => hK ▸ oz_neX⟩
end
end Z

set_option Elab.async false
set_option linter.all false
set_option maxRecDepth 100000
set_option maxHeartbeats 4000000
/-! Z26: t[::-1] -/
namespace Z
open PySem PySem.Spec PyProof.Rows L2 RZ
theorem fm_map {α β : Type} {f : α → Option β} {g : α → β} : ∀ (l : List α), (∀ k ∈ l, f k = some (g k)) → l.filterMap f = l.map g
  | [], _ => rfl
  | a :: l, h => by
    rw [List.filterMap_cons, h a (List.mem_cons_self ..), List.map_cons, fm_map l fun k hk => h k (List.mem_cons_of_mem _ hk)]
section
variable {prog : Program} {w : World} {A : Around} {E : Value → Shared → Prop} {s : Shared}
theorem rev_pick (xs : Array Value) : ((List.range xs.size).filterMap fun (k : Nat) => xs[(((xs.size : Int) - 1) + (k : Int) * (-1)).toNat]?) = xs.toList.reverse := by
  rw [fm_map (g := fun k => xs.toList.reverse.getD k .none)]
  · refine List.ext_getElem (by simp) fun i h1 h2 => ?_
    simp only [List.getElem_map, List.getElem_range, List.getD_eq_getElem?_getD]
    rw [List.getElem?_eq_getElem h2]
    rfl
  · intro k hk
    have hk := List.mem_range.mp hk
    have e1 : (((xs.size : Int) - 1) + (k : Int) * (-1)).toNat = xs.size - 1 - k := by omega
    rw [e1, List.getD_eq_getElem?_getD, List.getElem?_reverse (by simpa using hk)]
    simp only [Array.length_toList, Array.getElem?_toList]
    rw [Array.getElem?_eq_getElem (by omega)]
    rfl
theorem getItem_tuple_rev {t sl : Addr} {items : Array Value} {vk : Value} {Q : Value → Shared → Prop} (ht : IsTup s.heap t items) (hs : s.heap.IsSliceOf sl .none .none vk) (pk : IsPart vk (some (-1)))
    (h : Q (.ref s.heap.objs.size) { s with heap := s.heap.push { cls := .type "tuple", data := .seq items.toList.reverse.toArray } }) (hsz : items.size ≤ sizeLine) : wpAny (model prog w) A (getItem (.ref t) (.ref sl)) Q E s := by
  have ok : sizeOk (.seq items.toList.reverse.toArray) := by
    show items.toList.reverse.toArray.size ≤ sizeLine
    simpa using hsz
  obtain ⟨os, hos, hcs, hds⟩ := id hs
  have tS : s.TypeIs (.ref sl) "slice" := ⟨os, hos, hcs⟩
  unfold getItem
  try with_reducible refine wpAny_holding ?_
  first | refine wpAny_bind (wpAny_pure ?_) | skip
  refine wpAny_bind (wpAny_sequenceKey ht.typeIs (by decide) ?_)
  refine wpAny_bind (wpAny_callSpecial?_slot (name := Str.ofString "__getitem__") ht.typeIs slot_tuple_getitem (wpAny_call_entry slot_tuple_getitem ht.typeIs entry_tuple_getitem ?_ (args_tuple_getitem _ _)))
  show wpAny _ _ (Builtin.Tuple.tupleItemsOf (.ref t) >>= _) _ _ s
  refine wpAny_bind (tupleItemsOf_ ht ?_)
  refine wpAny_bind (wpAny_typeOf tS ?_)
  rw [if_pos (by decide)]
  have ap : ∀ {Q : Int × Int × Nat → Shared → Prop}, Q ((items.size : Int) - 1, -1, items.size) s → wpAny (model prog w) A.in1 (Builtin.Slice.sliceApplied (.ref sl) (pure (items.size : Int))) Q E s := fun {Q} q => by
    unfold Builtin.Slice.sliceApplied Builtin.Slice.sliceFields
    refine wpAny_bind (wpAny_bind (wpAny_field hos hds (x := .none) rfl (wpAny_bind (wpAny_field hos hds (x := .none) rfl (wpAny_bind (wpAny_field hos hds (x := vk) rfl (wpAny_pure ?_)))))))
    refine wpAny_bind (HT.slicePart_ pk ?_)
    show wpAny _ _ (if ((-1 : Int) == 0) = true then _ else _) _ _ s
    rw [if_neg (by decide)]
    refine wpAny_bind (HT.slicePart_ IsPart.none (wpAny_bind (HT.slicePart_ IsPart.none (wpAny_bind (wpAny_pure ?_)))))
    have e1 : Builtin.Slice.sliceAdjust none none (-1) (items.size : Int) = ((items.size : Int) - 1, -1) := by
      unfold Builtin.Slice.sliceAdjust
      simp
    have e2 : Builtin.Slice.slicePlaces ((items.size : Int) - 1) (-1) (-1) = items.size := by
      unfold Builtin.Slice.slicePlaces
      simp
      omega
    show wpAny _ _ (match Builtin.Slice.sliceAdjust none none (-1) (items.size : Int) with | (lo, hi) => pure (lo, (-1 : Int), Builtin.Slice.slicePlaces lo hi (-1))) _ _ s
    rw [e1]
    show wpAny _ _ (pure ((items.size : Int) - 1, (-1 : Int), Builtin.Slice.slicePlaces ((items.size : Int) - 1) (-1) (-1))) _ _ s
    rw [e2]
    exact wpAny_pure q
  refine wpAny_bind (ap ?_)
  have no : ¬ ((((items.size : Int) - 1) == 0 && (-1 : Int) == 1 && items.size == items.size) = true) := by simp
  show wpAny _ _ (if (((items.size : Int) - 1) == 0 && (-1 : Int) == 1 && items.size == items.size) = true then _ else _) _ _ s
  rw [if_neg no, rev_pick]
  first
    | exact wpAny_bind (m := Builtin.Tuple.tupleExact _) (wpAny_newObj_type (wpAny_pure ⟨_, rfl, wpAny_pure h⟩) ok)
    | exact wpAny_bind (wpAny_bind (m := Builtin.Tuple.tupleExact _) (wpAny_newObj_type (wpAny_pure ⟨_, rfl, wpAny_pure h⟩) ok))
end
/-! ### x[::-1] of lists and tuples -/
def tRevT (K : PySem.W.Frag) (te : TE) : TE := fun σ H Q => te σ H fun x H1 => ∃ a xs, x = .ref a ∧ SqT K H1 a xs ∧ ∀ p, H1 p = none → Q (.ref p) (upd H1 p (.tup xs.reverse))
section
variable {Γ : Gm} {B : Bs} {W : WX} {X : Cx} {e o : Expr} {f g : Den} {p pos : Pos}
/-- the third part is -1 -/
theorem pe_rev {te : TE} {k : Nat} {p1 p2 p3 : Pos} (he : PE X e te) : PE X (.Subscript e (.Slice none none (some (.UnaryOp .USub (.Constant (.int 1) k p1) p2)) p3) pos) (fun σ H Q => te σ H fun x H1 => (∃ a xs, x = .ref a ∧ SqL X.K H1 a xs ∧ ∀ p, H1 p = none → Q (.ref p) (upd H1 p (.lst xs.reverse))) ∨ (∃ a xs, x = .ref a ∧ SqT X.K H1 a xs ∧ ∀ p, H1 p = none → Q (.ref p) (upd H1 p (.tup xs.reverse)))) := by
  refine ⟨fun pins s σ H Q I h => ?_⟩
  refine Subscript_ (thn (he.run pins s σ H _ I h) fun v s1 ⟨x, H1, I1, r1, q1⟩ => ?_)
  have hst : PO X (some (.UnaryOp .USub (.Constant (.int 1) k p1) p2)) (tPart (tUn (rU fun i => .int (-i)) (tC (.int 1)))) := po_some (pe_un un_neg pe_int)
  refine wpAny_Slice (thn (po_none.run pins s1 σ H1 (fun o H2 => o = none ∧ H2 = H1) I1 ⟨rfl, rfl⟩) fun vl s2 ⟨l, H2, I2, pl, el, e2⟩ => ?_)
  subst el e2
  refine thn (po_none.run pins s2 σ H2 (fun o H3 => o = none ∧ H3 = H2) I2 ⟨rfl, rfl⟩) fun vu s3 ⟨u, H3, I3, pu, eu, e3⟩ => ?_
  subst eu e3
  refine thn (hst.run pins s3 σ H3 (fun o H4 => o = some (-1) ∧ H4 = H3) I3 ⟨1, rfl, -1, rfl, rfl, rfl⟩) fun vs s4 ⟨o, H4, I4, ps, eo, e4⟩ => ?_
  subst eo e4
  have J : Inv X pins σ H4 { s4 with heap := s4.heap.push { cls := .type "slice", data := .fields #[vl, vu, vs] } } := I4.kept (t' := s4.toks) fun b ob q => Heap.get?_push_of_some _ q
  rcases q1 with ⟨a, xs, rfl, hx, q⟩ | ⟨a, xs, rfl, hx, q⟩
  · cases r1
    obtain ⟨its, r, ht, hz⟩ := J.list hx
    have hlen := r.length
    show wpAny (model X.prog X.w) X.A (subscriptTail e (.Slice none none (some (.UnaryOp .USub (.Constant (.int 1) k p1) p2)) p3) (.ref a) (.ref s4.heap.objs.size)) (EP X pins σ Q) X.xe { s4 with heap := s4.heap.push { cls := .type "slice", data := .fields #[vl, vu, vs] } }
    refine tail_any (ops := [.ref a, .ref s4.heap.objs.size]) ht.isList.typeIs (PySem.slot_list_getitem.lookup) ?_ (by with_unfolding_all rfl)
    refine wpAny_getItem_list_slice ht.isList (Heap.IsSliceOf.new _ vl vu vs) pl pu ps (by decide) ?_ (by rw [List.size_toArray]; omega)
    rw [PySem.W.krv_pick]
    refine ⟨.ref _, _, J.laid (t' := s4.toks) (o := .lst xs.reverse) (fun b ob q => Heap.get?_push_of_some _ q) (Nat.le_refl _) ?_, rfl, q _ (J.hok.fresh (Nat.le_refl _))⟩
    exact ⟨by rw [List.length_reverse]; exact hz, _, 0, r.reverse, Heap.get?_push_size _ rfl⟩
  · cases r1
    cases pl
    cases pu
    obtain ⟨its, r, ht, hz⟩ := J.tuple hx
    have hlen := r.length
    show wpAny (model X.prog X.w) X.A (subscriptTail e (.Slice none none (some (.UnaryOp .USub (.Constant (.int 1) k p1) p2)) p3) (.ref a) (.ref s4.heap.objs.size)) (EP X pins σ Q) X.xe { s4 with heap := s4.heap.push { cls := .type "slice", data := .fields #[.none, .none, vs] } }
    refine tail_any (ops := [.ref a, .ref s4.heap.objs.size]) ht.typeIs (slot_tuple_getitem.lookup) ?_ (by with_unfolding_all rfl)
    refine getItem_tuple_rev ht (Heap.IsSliceOf.new _ .none .none vs) ps ?_ (by rw [List.size_toArray]; omega)
    refine ⟨.ref _, _, J.laid (t' := s4.toks) (o := .tup xs.reverse) (fun b ob q => Heap.get?_push_of_some _ q) (Nat.le_refl _) ?_, rfl, q _ (J.hok.fresh (Nat.le_refl _))⟩
    refine ⟨by rw [List.length_reverse]; exact hz, _, r.reverse, ?_⟩
    exact IsTup.new _ _
theorem RepL.rev {z : Fz} : ∀ {ds : List D} {vs : List V}, RepL Γ z ds vs → RepL Γ z ds.reverse vs.reverse
  | [], _, h => by simp only [RepL] at h; subst h; exact .nil
  | d :: ds, _, h => by
    simp only [RepL] at h
    obtain ⟨v, us, rfl, h2, h3⟩ := h
    rw [List.reverse_cons, List.reverse_cons]
    exact (h3.rev).snoc h2
def revD : D → Option D
  | .tup xs => some (.tup xs.reverse)
  | .lst xs => some (.lst xs.reverse)
  | _ => none
def zrev (f : Den) : Den := fun m => (f m).bind fun d m1 => ofO (revD d) m1
theorem qrev {k : Nat} {p1 p2 p3 : Pos} (ha : PE X e (tE Γ B W f)) (hK : X.K = Γ.K := by rfl) : PE X (.Subscript e (.Slice none none (some (.UnaryOp .USub (.Constant (.int 1) k p1) p2)) p3) pos) (tE Γ B W (zrev f)) := by
  refine PE.imp (pe_rev ha) fun σ H Q ⟨m, z, rl, h⟩ => ?_
  refine bnd rl h fun z1 d m1 x H1 e1 r1 p1 h1 => ?_
  rw [hK]
  cases d with
  | tup ds =>
    obtain ⟨a, vs, rfl, k1, k2⟩ := Rep.tup.mp p1
    refine .inr ⟨a, vs, rfl, r1.sqT k1, fun p hp => ?_⟩
    obtain ⟨x2, r2, q2⟩ := r1.newTup hp k2.rev
    exact h1 _ _ _ x2 r2 q2
  | lst ds =>
    obtain ⟨a, vs, rfl, k1, k2⟩ := Rep.lst.mp p1
    refine .inl ⟨a, vs, rfl, .inl (.inl (r1.rf.sub _ _ k1)), fun p hp => ?_⟩
    obtain ⟨x2, r2, q2⟩ := r1.newLst hp k2.rev
    exact h1 _ _ _ x2 r2 q2
  | _ => exact h1.elim
/-! ### s.upper() -/
def upD : D → Option D
  | .str a => if small a.length = true then some (.str (Txt.upper a)) else none
  | _ => none
def zup (f : Den) : Den := fun m => (f m).bind fun d m1 => ofO (upD d) m1
theorem qup {apos : Pos} (ha : PE X o (tE Γ B W f)) (hbase : attributeBase o "upper" X.env (eval o X.env) = eval o X.env := by rfl) (hline : (apos.endLine == pos.line) = true := by rfl) : PE X (.Call (.Attribute o "upper" apos) [] [] pos) (tE Γ B W (zup f)) := by
  refine PE.imp (pe_upper ha hbase hline) fun σ H Q ⟨m, z, rl, h⟩ => ?_
  refine bnd rl h fun z1 d m1 x H1 e1 r1 p1 h1 => ?_
  cases d with
  | str a =>
    have e := Rep.str.mp p1
    subst e
    have h1 : Po Γ B W (rpE Γ) σ z1 (ofO (if small a.length = true then some (D.str (Txt.upper a)) else none) m1) Q := h1
    split at h1
    · rename_i hs
      exact ⟨⟨a, rfl⟩, a, rfl, rfl, Nat.le_trans (of_decide_eq_true hs) (by decide), h1 z1 _ H1 (Ext.refl _) r1 (Rep.str.mpr rfl)⟩
    · exact h1.elim
  | _ => exact h1.elim
/-! ### enumerate(list) -/
def enumD (xs : List D) : List D := (List.range xs.length).zipWith (fun i x => D.tup [.int (i : Nat), x]) xs
def enumS : List D → Option (List D)
  | [.lst xs] => some (enumD xs)
  | _ => none
def zenum (k : DenL) : DenL := fun m => (k m).bind fun ds m1 => ofO (enumS ds) m1
theorem enum_get {xs : List D} {i : Nat} {x : D} (h : xs[i]? = some x) : (enumD xs)[i]? = some (.tup [.int (i : Nat), x]) := by
  have hi := (List.getElem?_eq_some_iff.mp h).1
  unfold enumD
  rw [List.getElem?_zipWith, List.getElem?_range hi, h]
theorem wk_enum {z : Fz} {ds : List D} {vs : List V} {q : Addr} (h1 : z.G q = some (.lst vs)) (h2 : RepL Γ z ds vs) : Wk Γ z (Ite Γ.K q) (enumD ds) := by
  have w := walk_enum (K := Γ.K) (a := q) (xs := vs)
  have e1 := h2.length
  have el : (enumD ds).length = vs.length := by unfold enumD; rw [List.length_zipWith, List.length_range]; omega
  refine ⟨fun i H hi sub => w.goes i H (by omega) (SqL.of (sub _ _ h1)), fun H sub => by rw [el]; exact w.stops H (SqL.of (sub _ _ h1)), fun i H x H' hi sub y => ?_⟩
  obtain ⟨T, v, u, rfl, hT, rfl, g1, g2⟩ := w.yields i H x H' (by omega) (SqL.of (sub _ _ h1)) y
  have i1 : i < ds.length := by omega
  obtain ⟨u', k3, k4⟩ := h2.get (List.getElem?_eq_getElem i1)
  have g1 : some (V.int (i : Nat)) = some v := g1
  have g2 : vs[i]? = some u := g2
  cases g1
  rw [g2] at k3; cases k3
  exact ⟨_, enum_get (List.getElem?_eq_getElem i1), .inr ⟨T, _, _, hT, rfl, rfl, rfl, .cons (Rep.int.mpr rfl) (.cons k4 .nil)⟩⟩
theorem ienum {fs : DenL} {tpos : Pos} {elts : List Expr} {kk : Nat} (M : Bn X.mg) (ha : PAL X Γ B W [e] fs) (hK : X.K = Γ.K := by rfl) (hg : Gl X "enumerate" := by rfl) (hs : starEach [e] X.env = [(false, eval e X.env)] := by rfl) :
    PI X (.Tuple elts kk tpos) (.Call (.Name "enumerate" p) [e] [] pos) (tI Γ B W (zenum fs)) := by
  refine PI.imp (pi_enum hg (M _ (by decide)) ha.pa hs) fun σ H Q ⟨m, z, rl, h⟩ => ?_
  refine bnd rl h fun z1 ds m1 xs H1 e1 r1 p1 h1 => ?_
  rw [hK]
  match ds, h1, p1 with
  | [.lst ds], h1, p1 =>
    obtain ⟨v, rfl, p2⟩ := p1.one
    obtain ⟨a, vs, rfl, k1, k2⟩ := Rep.lst.mp p2
    exact ⟨a, vs, rfl, .inl (.inl (r1.rf.sub _ _ k1)), h1 z1 _ H1 (Ext.refl _) r1 (wk_enum k1 k2)⟩
/-! ### x in y, x not in y -/
def inB (d e : D) : Option Bool := match e with
  | .lst xs => if (okD d && okD (.lst xs)) = true then some (xs.any fun y => eqb y d) else none
  | .tup xs => if (okD d && okD (.lst xs)) = true then some (xs.any fun y => eqb y d) else none
  | .str s => match d with
    | .str t => some (!(Builtin.Str.occurrences s t 0 s.length 1).isEmpty)
    | _ => none
  | _ => none
def inX (d e : D) : Option D := (inB d e).map .bl
def ninX (d e : D) : Option D := (inB d e).map fun b => .bl !b
def rInX (K : PySem.W.Frag) (n : Bool) : R2 := fun x y H Q => (∃ d ds, Dp K H x d ∧ (Dp K H y (.list ds) ∨ Dp K H y (.tuple ds)) ∧ SeqAt.shaped d = true ∧ SeqAt.shaped (.list ds) = true ∧ Q (.bl (xor n (ds.any fun z => PyData.eqv z d))) H)
theorem op_inX (hu : X.A.units + 65 < cLine) : OpR X (compareOp .In) (rInX X.K false) := by
  intro pins s σ H x y v u Q I rx ry h
  obtain ⟨d, ds, hd, he, sd, se, q⟩ := h
  obtain ⟨as, r1⟩ := Dp.reads I d x v hd rx
  rw [Bool.false_xor] at q
  rcases he with he | he
  · obtain ⟨bs, r2⟩ := Dp.reads I (.list ds) y u he ry
    exact SeqAt.in_list_reads r2 r1 (SeqAt.canLay_of_shaped se) (SeqAt.canLay_of_shaped sd) (room_in_shaped sd hu) ⟨.bl _, H, I, rfl, q⟩
  · obtain ⟨bs, r2⟩ := Dp.reads I (.tuple ds) y u he ry
    exact SeqAt.in_tuple_reads r2 r1 (SeqAt.canLay_of_shaped se) (SeqAt.canLay_of_shaped sd) (room_in_shaped sd hu) ⟨.bl _, H, I, rfl, q⟩
theorem op_ninX (hu : X.A.units + 65 < cLine) : OpR X (compareOp .NotIn) (rInX X.K true) := by
  intro pins s σ H x y v u Q I rx ry h
  obtain ⟨d, ds, hd, he, sd, se, q⟩ := h
  obtain ⟨as, r1⟩ := Dp.reads I d x v hd rx
  rw [Bool.true_xor] at q
  rcases he with he | he
  · obtain ⟨bs, r2⟩ := Dp.reads I (.list ds) y u he ry
    exact SeqAt.notIn_list_reads r2 r1 (SeqAt.canLay_of_shaped se) (SeqAt.canLay_of_shaped sd) (room_in_shaped sd hu) ⟨.bl _, H, I, rfl, q⟩
  · obtain ⟨bs, r2⟩ := Dp.reads I (.tuple ds) y u he ry
    exact SeqAt.notIn_tuple_reads r2 r1 (SeqAt.canLay_of_shaped se) (SeqAt.canLay_of_shaped sd) (room_in_shaped sd hu) ⟨.bl _, H, I, rfl, q⟩
theorem any_eqv : ∀ (xs : List D) (ps : List PyData) (d : D) (p : PyData), toPL xs = some ps → toP d = some p → (ps.any fun z => PyData.eqv z p) = xs.any fun y => eqb y d
  | [], ps, d, p, h1, h2 => by
    simp only [toPL, Option.some.injEq] at h1
    subst h1
    rfl
  | x :: xs, ps, d, p, h1, h2 => by
    simp only [toPL, Option.bind_eq_some_iff, Option.map_eq_some_iff] at h1
    obtain ⟨q, e1, qs, e2, rfl⟩ := h1
    rw [List.any_cons, List.any_cons, any_eqv xs qs d p e2 h2, eqb_eqv x d q p e1 h2]
theorem inB_of {n : Bool} {z : Fz} {m : M} {σ : L2.St} {H : Hp} {d e : D} {x y : V} {b : Bool} {Q : VK} (rl : Rl Γ B z m σ H) (rd : Rep Γ z d x) (re : Rep Γ z e y) (h : inB d e = some b) (q : Q (.bl (xor n b)) H) : rInX Γ.K n x y H Q ∨ (∃ i j, x = .str i ∧ y = .str j ∧ Q (.bl (xor n (!(Builtin.Str.occurrences j i 0 j.length 1).isEmpty))) H) := by
  have key : ∀ (xs : List D), (okD d && okD (.lst xs)) = true → b = (xs.any fun y => eqb y d) → (∀ ps, toPL xs = some ps → Dp Γ.K H y (.list ps) ∨ Dp Γ.K H y (.tuple ps)) → rInX Γ.K n x y H Q := fun xs ok eb hy => by
    simp only [Bool.and_eq_true] at ok
    obtain ⟨p, e1, s1⟩ := okD_of ok.1
    obtain ⟨p2, e2, s2⟩ := okD_of ok.2
    simp only [toP, Option.map_eq_some_iff] at e2
    obtain ⟨ps, e3, rfl⟩ := e2
    refine ⟨p, ps, Rep.dp rl.rf.sub _ _ _ rd e1, hy ps e3, s1, s2, ?_⟩
    rw [any_eqv xs ps d p e3 e1, ← eb]
    exact q
  unfold inB at h
  split at h
  · rename_i xs
    split at h
    · rename_i ok
      exact .inl (key xs ok (Option.some.inj h).symm fun ps e3 => .inl (Rep.dp rl.rf.sub (.lst xs) _ _ re (by simp only [toP, e3, Option.map_some])))
    · cases h
  · rename_i xs
    split at h
    · rename_i ok
      exact .inl (key xs ok (Option.some.inj h).symm fun ps e3 => .inr (Rep.dp rl.rf.sub (.tup xs) _ _ re (by simp only [toP, e3, Option.map_some])))
    · cases h
  · rename_i s
    split at h
    · rename_i t
      cases h
      exact .inr ⟨t, s, Rep.str.mp rd, Rep.str.mp re, q⟩
    · cases h
  · cases h
theorem oz_inX : OpZ Γ B (fun x y H Q => rInX Γ.K false x y H Q ∨ (∃ i j, x = .str i ∧ y = .str j ∧ Q (.bl (!(Builtin.Str.occurrences j i 0 j.length 1).isEmpty)) H)) inX := by
  intro z m σ H d e c x y Q rl rd re hc q
  obtain ⟨b, h1, rfl⟩ := Option.map_eq_some_iff.mp hc
  rcases inB_of (n := false) rl rd re h1 (by rw [Bool.false_xor]; exact q z _ H (Ext.refl _) rl (Rep.bl.mpr rfl)) with h | ⟨i, j, e1, e2, h⟩
  · exact .inl h
  · exact .inr ⟨i, j, e1, e2, by rw [Bool.false_xor] at h; exact h⟩
theorem oz_ninX : OpZ Γ B (rInX Γ.K true) (fun d e => match e with | .str _ => none | _ => ninX d e) := by
  intro z m σ H d e c x y Q rl rd re hc q
  have hc2 : ninX d e = some c ∧ ∀ s, e ≠ .str s := by
    cases e <;> first | exact ⟨hc, fun s => nofun⟩ | cases hc
  obtain ⟨b, h1, rfl⟩ := Option.map_eq_some_iff.mp hc2.1
  rcases inB_of (n := true) rl rd re h1 (by rw [Bool.true_xor]; exact q z _ H (Ext.refl _) rl (Rep.bl.mpr rfl)) with h | ⟨i, j, e1, e2, h⟩
  · exact h
  · subst e2
    cases e with
    | str s => exact absurd rfl (hc2.2 s)
    | tup ds => obtain ⟨a, vs, e3, _⟩ := Rep.tup.mp re; cases e3
    | lst ds => obtain ⟨a, vs, e3, _⟩ := Rep.lst.mp re; cases e3
    | _ => simp [inB] at h1
def ninL (d e : D) : Option D := match e with
  | .str _ => none
  | _ => ninX d e
theorem cin {k : Nat} (hr : Room k X.A) (hK : X.K = Γ.K := by rfl) : CmZ X Γ .In inX := ⟨_, OpR.or (op_inX (by have := hr.un; omega)) op_in_str, fun _ => hK ▸ oz_inX⟩
theorem cnin {k : Nat} (hr : Room k X.A) (hK : X.K = Γ.K := by rfl) : CmZ X Γ .NotIn ninL := ⟨_, op_ninX (by have := hr.un; omega), fun _ => hK ▸ oz_ninX⟩
end
end Z

set_option Elab.async false
set_option linter.all false
set_option maxRecDepth 100000
set_option maxHeartbeats 4000000
/-! Z28: an own error made as a value -/
namespace Z
open PySem PySem.Spec PyProof.Rows L2 RZ
section
variable {Γ : Gm} {B : Bs} {W : WX} {X : Cx} {x : Str} {p pos : Pos} {e : Expr} {f : Den} {c : Nat}
theorem pe_ofMk {t : L2.St → Hp → XK → Prop} (h : PMk X e t) : PE X e (fun σ H Q => t σ H fun cls d H' => ∃ C dx, cls = .ref C ∧ d = some dx ∧ ∀ a, H' a = none → Q (.ref a) (upd H' a (ErO C dx a))) := by
  refine ⟨fun pins s σ H Q I hq => thn (h pins s σ H _ I hq) fun u s1 hu => ?_⟩
  obtain ⟨a, oe, vs, sI, H', cls, d, rfl, J, k, hne, ha, hz, hd, h1, na, os, ag, r, C, dx, rfl, rfl, q⟩ := hu
  have new : ObjOk X.prog X.w (upd H' a (ErO C dx a)) s1.heap a (ErO C dx a) := ⟨⟨oe, vs, ha, hz, hd⟩, ⟨oe, ha⟩, fun _ _ ⟨o, v, q, r⟩ k => ⟨o, v, k o q, r⟩⟩
  exact ⟨.ref a, _, J.call' (ch := []) os (Un.laidN k hne na) (J.hok.laidN k na new) ag (fun b z => absurd z (by simp)), rfl, q a na⟩
def zmk (c : Nat) (f : Den) : Den := fun m => match f m with
  | .ok d m1 => .ok (.obj c [d]) m1
  | .exc c d m1 => .exc c d m1
  | .bad => .bad
theorem z_mk (Er : Erc Γ X.prog X.w X.mg X.base x c) (hK : X.K = Γ.K) (hr : Room 2 X.A) (hg : Gl X x) (ha : PE X e (tE Γ B W f)) (hdb : (x == ("__debug__" : Str)) = false) (he : starEach [e] X.env = (false, eval e X.env) :: starEach [] X.env) (hpl : (backTo pos (starEach [] X.env)).any (·.1) = false) :
    PE X (.Call (.Name x p) [e] [] pos) (tE Γ B W (zmk c f)) := by
  obtain ⟨D, fI, fd, T, i1, i2, F, b⟩ := Er.ex
  have T' : OexC X.K (Γ.cls c) := hK ▸ T.T
  rw [← hK] at i1 i2 F b
  have hm := pmk_oex (X := X) (p := p) (pos := pos) T' i1 i2 F hr b .nil passL hg Er.at_ (pa_cons ha pa_nil he) hdb he hpl
  refine ⟨fun pins s σ H Q I ⟨m, z, rl, h⟩ => (pe_ofMk hm).run pins s σ H Q I ?_⟩
  rw [hK]
  refine mk_conv T ⟨m, z, rl, ?_⟩
  have h : Po Γ B W (rpE Γ) σ z (zmk c f m) Q := h
  unfold zmk at h
  cases e0 : f m with
  | bad => rw [e0] at h; exact h
  | exc c d m1 => rw [e0] at h; exact h
  | ok d m1 =>
    rw [e0] at h
    refine fun z1 v H1 x1 r1 p1 dx hn => ⟨_, _, rfl, rfl, fun a ha => ?_⟩
    have r2 := r1.grow (o := .xd [(("value" : Str), v)]) hn
    have x2 := ext_add (o := HO.xd [(("value" : Str), v)]) (r1.rf.gnone hn)
    have r3 := r2.grow (o := ErO (Γ.cls c) dx a) ha
    have x3 := ext_add (o := ErO (Γ.cls c) dx a) (r2.rf.gnone ha)
    refine h _ _ _ ((x1.trans x2).trans x3) r3 ?_
    show Rep Γ _ (.obj c [d]) (.ref a)
    simp only [Rep]
    exact ⟨a, dx, v, rfl, upd_same, x3.g _ _ upd_same, .cons (Rep.mono (x2.trans x3) d p1) .nil⟩
theorem qmk {k' : Nat} (Er : Erc Γ X.prog X.w X.mg X.base x c) (hr : Room k' X.A) (hk : 2 ≤ k') (ha : PE X e (tE Γ B W f)) (hK : X.K = Γ.K := by rfl) (hg : Gl X x := by rfl) (hdb : (x == ("__debug__" : Str)) = false := by decide) (he : starEach [e] X.env = (false, eval e X.env) :: starEach [] X.env := by rfl) (hpl : (backTo pos (starEach [] X.env)).any (·.1) = false := by rfl) :
    PE X (.Call (.Name x p) [e] [] pos) (tE Γ B W (zmk c f)) := z_mk Er hK (hr.mono hk) hg ha hdb he hpl
end
end Z

set_option Elab.async false
set_option linter.all false
set_option maxRecDepth 100000
set_option maxHeartbeats 4000000
/-! Z29: s.split(t), s.join(list) -/
namespace Z
open PySem PySem.Spec PyProof.Rows L2 RZ
section
variable {Γ : Gm} {B : Bs} {W : WX} {X : Cx} {z : Fz} {o e : Expr} {pos : Pos} {f g : Den}
def txtsD : List D → Option (List Str)
  | [] => some []
  | .str x :: ds => (txtsD ds).map (x :: ·)
  | _ => none
theorem txts_rep : ∀ {ds : List D} {xs : List Str} {vs : List V}, txtsD ds = some xs → RepL Γ z ds vs → vs = xs.map V.str
  | [], xs, vs, h, r => by
    cases h
    simp only [RepL] at r
    exact r
  | .str x :: ds, xs, vs, h, r => by
    simp only [txtsD, Option.map_eq_some_iff] at h
    obtain ⟨ys, h1, rfl⟩ := h
    simp only [RepL] at r
    obtain ⟨v, ws, rfl, k1, k2⟩ := r
    rw [Rep.str.mp k1, txts_rep h1 k2]
    rfl
  | .non :: _, _, _, h, _ | .bl _ :: _, _, _, h, _ | .int _ :: _, _, _, h, _ | .tup _ :: _, _, _, h, _ | .lst _ :: _, _, _, h, _ | .dct _ _ :: _, _, _, h, _ | .cel _ :: _, _, _, h, _ | .obj _ _ :: _, _, _, h, _ | .scr _ :: _, _, _, h, _ | .ins _ _ :: _, _, _, h, _ => by cases h
theorem rep_txts : ∀ xs : List Str, RepL Γ z (xs.map D.str) (xs.map V.str)
  | [] => .nil
  | x :: xs => .cons (Rep.str.mpr rfl) (rep_txts xs)
def splitD (a : Str) : D → Option D
  | .str b => if (!(b.length == 0) && small a.length) = true then some (.lst ((Txt.split a b).map .str)) else none
  | _ => none
def zsplit (f g : Den) : Den := fun m => (f m).bind fun d m1 => match d with
  | .str a => (g m1).bind fun e m2 => ofO (splitD a e) m2
  | _ => .bad
theorem qsplit {apos : Pos} (ha : PE X o (tE Γ B W f)) (hb : PE X e (tE Γ B W g)) (hs : starEach [e] X.env = [(false, eval e X.env)] := by rfl) (hbase : attributeBase o "split" X.env (eval o X.env) = eval o X.env := by rfl) (hline : (apos.endLine == pos.line) = true := by rfl) :
    PE X (.Call (.Attribute o "split" apos) [e] [] pos) (tE Γ B W (zsplit f g)) := by
  refine PE.imp (pe_split ha hb hs hbase hline) fun σ H Q ⟨m, z, rl, h⟩ => ?_
  refine bnd rl h fun z1 d m1 x H1 e1 r1 p1 h1 => ?_
  cases d with
  | str a =>
    have e := Rep.str.mp p1
    subst e
    refine ⟨⟨a, rfl⟩, ?_⟩
    refine bnd r1 h1 fun z2 d2 m2 y H2 e2 r2 p2 h2 => ?_
    cases d2 with
    | str b =>
      have e := Rep.str.mp p2
      subst e
      have h2 : Po Γ B W (rpE Γ) σ z2 (ofO (if (!(b.length == 0) && small a.length) = true then some (D.lst ((Txt.split a b).map .str)) else none) m2) Q := h2
      split at h2
      · rename_i hc
        simp only [Bool.and_eq_true, Bool.not_eq_true'] at hc
        refine ⟨a, b, rfl, rfl, hc.1, Nat.le_trans (Nat.add_le_add_right (of_decide_eq_true hc.2) 2) (by decide), fun p hp => ?_⟩
        obtain ⟨x3, r3, q3⟩ := r2.newLst hp (rep_txts (Txt.split a b))
        exact h2 _ _ _ x3 r3 q3
      · exact h2.elim
    | _ => exact h2.elim
  | _ => exact h1.elim
def joinD (a : Str) : D → Option D
  | .lst ds => (txtsD ds).bind fun ys => if decide ((ys.map (·.length)).sum + ys.length * a.length ≤ 16777216) = true then some (.str (Txt.join a ys)) else none
  | _ => none
def zjoin (f g : Den) : Den := fun m => (f m).bind fun d m1 => match d with
  | .str a => (g m1).bind fun e m2 => ofO (joinD a e) m2
  | _ => .bad
theorem qjoin {apos : Pos} (ha : PE X o (tE Γ B W f)) (hb : PE X e (tE Γ B W g)) (hs : starEach [e] X.env = [(false, eval e X.env)] := by rfl) (hbase : attributeBase o "join" X.env (eval o X.env) = eval o X.env := by rfl) (hline : (apos.endLine == pos.line) = true := by rfl) :
    PE X (.Call (.Attribute o "join" apos) [e] [] pos) (tE Γ B W (zjoin f g)) := by
  refine PE.imp (pe_join ha hb hs hbase hline) fun σ H Q ⟨m, z, rl, h⟩ => ?_
  refine bnd rl h fun z1 d m1 x H1 e1 r1 p1 h1 => ?_
  cases d with
  | str a =>
    have e := Rep.str.mp p1
    subst e
    refine ⟨⟨a, rfl⟩, ?_⟩
    refine bnd r1 h1 fun z2 d2 m2 y H2 e2 r2 p2 h2 => ?_
    cases d2 with
    | lst ds =>
      obtain ⟨p, vs, rfl, k1, k2⟩ := Rep.lst.mp p2
      have h2 : Po Γ B W (rpE Γ) σ z2 (ofO ((txtsD ds).bind fun ys => if decide ((ys.map (·.length)).sum + ys.length * a.length ≤ 16777216) = true then some (D.str (Txt.join a ys)) else none) m2) Q := h2
      cases et : txtsD ds with
      | none => rw [et] at h2; exact h2.elim
      | some ys =>
        rw [et] at h2
        have h2 : Po Γ B W (rpE Γ) σ z2 (ofO (if decide ((ys.map (·.length)).sum + ys.length * a.length ≤ 16777216) = true then some (D.str (Txt.join a ys)) else none) m2) Q := h2
        split at h2
        · rename_i hc
          have ev := txts_rep et k2
          subst ev
          exact ⟨a, p, ys, rfl, rfl, .inl (.inl (.inl (r2.rf.sub _ _ k1))), of_decide_eq_true hc, h2 z2 _ H2 (Ext.refl _) r2 (Rep.str.mpr rfl)⟩
        · exact h2.elim
    | _ => exact h2.elim
  | _ => exact h1.elim
end
end Z

set_option Elab.async false
set_option linter.all false
set_option maxRecDepth 100000
set_option maxHeartbeats 4000000
/-! Z30: objects with slots that are made once: __init__, C(e), fields -/
namespace Z
open PySem PySem.Spec PyProof.Rows L2 RZ
/-- the object that is being made stands apart -/
structure Slf (B : Bs) (dx : Addr) : Prop where
  g1 : B.z.G B.s = none
  g2 : B.z.G dx = none
  r1 : B.s ∉ B.z.r
  r2 : dx ∉ B.z.r
  x1 : B.s ∉ B.x
  x2 : dx ∉ B.x
  ne : dx ≠ B.s
  h1 : ∃ o, B.H B.s = some o ∧ ∀ ps, o ≠ .tbl ps
  h2 : ∃ o, B.H dx = some o ∧ ∀ ps, o ≠ .tbl ps
section
variable {Γ : Gm} {B : Bs} {z : Fz} {m : M} {σ : L2.St} {H : Hp} {dx : Addr}
theorem Rl.old (r : Rl Γ B z m σ H) {a : Addr} {o : HO} (g : B.z.G a = none) (hr : a ∉ B.z.r) (hx : a ∉ B.x) (h : B.H a = some o) (ht : ∀ ps, o ≠ .tbl ps) : z.G a = none ∧ a ∉ z.r ∧ H a = some o ∧ ∀ (i : Nat) (ky : BK) (ys : List D), m.e[i]? = some (.box ky ys) → σ[i]? ≠ some (some (.ref a)) := by
  refine ⟨?_, fun hm => ?_, r.sn.keep a o h hr hx ht, fun i ky ys e1 e2 => ?_⟩
  · cases q : z.G a with
    | none => rfl
    | some u =>
      rcases r.sn.gnew a u q with k | k | k
      · rw [g] at k; cases k
      · rw [h] at k; cases k
      · exact absurd k hx
  · rcases r.sn.rnew a hm with k | k | k
    · exact hr k
    · rw [h] at k; cases k
    · exact hx k
  · obtain ⟨b, us, e, _, _, _, _, q5⟩ := r.slot i _ _ e1 e2
    cases e
    rcases q5 with k | k
    · rw [h] at k; cases k
    · exact hx k
/-- one old object that stands apart is changed, in the entry's heap too -/
theorem Rl.poke1 (r : Rl Γ B z m σ H) {a : Addr} {o u : HO} (g : B.z.G a = none) (hr : a ∉ B.z.r) (hx : a ∉ B.x) (h : B.H a = some o) (ht : ∀ ps, o ≠ .tbl ps) (hu : ∀ ps, u ≠ .tbl ps) (hc : ∀ c q, H c = some (LamX.CodeO c q) → c ≠ a) : Rl Γ ⟨upd B.H a u, B.z, B.x, B.s, B.fr⟩ z m σ (upd H a u) := by
  obtain ⟨k1, k2, k3, k4⟩ := r.old g hr hx h ht
  refine ⟨⟨fun b v e => ?_, r.rf.slen, fun n xs b e1 e2 => ?_, r.rf.out, r.rf.rnd, fun p hp => ?_, r.rf.tg⟩, ⟨r.sn.ext, fun b v e n1 n2 n3 => ?_, fun b v e => ?_, fun b v e => ?_, fun b e => ?_⟩, r.len, fun i s w e1 e2 => ?_, r.apart⟩
  · rw [upd_ne (fun q => by rw [q, k1] at e; cases e)]
    exact r.rf.sub b v e
  · obtain ⟨vs, q1, q2⟩ := r.rf.sto n xs b e1 e2
    exact ⟨vs, by rw [upd_ne (fun q => k2 (by rw [← q]; exact List.mem_of_getElem? e2))]; exact q1, q2⟩
  · obtain ⟨ps, q1, q2, q3⟩ := r.rf.tab p hp
    refine ⟨ps, by rw [upd_ne (fun q => by rw [q, k3] at q1; exact ht ps (Option.some.inj q1))]; exact q1, q2, fun p' cv hcv => ?_⟩
    obtain ⟨c, e1, e2⟩ := q3 p' cv hcv
    exact ⟨c, e1, by rw [upd_ne (hc c _ e2)]; exact e2⟩
  · by_cases hb : b = a
    · subst hb
      have e : upd B.H b u b = some v := e
      rw [upd_same] at e ⊢
      exact e
    · have e : upd B.H a u b = some v := e
      rw [upd_ne hb] at e ⊢
      exact r.sn.keep b v e n1 n2 n3
  · by_cases hb : b = a
    · exact ⟨u, by rw [hb]; exact upd_same⟩
    · have e : upd B.H a u b = some v := e
      rw [upd_ne hb] at e ⊢
      exact r.sn.live b v e
  · rcases r.sn.gnew b v e with q | q | q
    · exact .inl q
    · refine .inr (.inl ?_)
      show upd B.H a u b = none
      rw [upd_ne (fun hb => by rw [hb, h] at q; cases q)]
      exact q
    · exact .inr (.inr q)
  · rcases r.sn.rnew b e with q | q | q
    · exact .inl q
    · refine .inr (.inl ?_)
      show upd B.H a u b = none
      rw [upd_ne (fun hb => by rw [hb, h] at q; cases q)]
      exact q
    · exact .inr (.inr q)
  · have q := r.slot i s w e1 e2
    cases s with
    | slf => exact q
    | un => trivial
    | val d => exact q
    | box bk xs =>
      obtain ⟨b, us, e, q1, q2, q3, q4, q5⟩ := q
      have nb : b ≠ a := fun hb => k4 i bk xs e1 (by rw [e2, e, hb])
      refine ⟨b, us, e, by rw [upd_ne nb]; exact q1, q2, q3, q4, ?_⟩
      rcases q5 with k | k
      · refine .inl ?_
        show upd B.H a u b = none
        rw [upd_ne nb]
        exact k
      · exact .inr k
/-- what stands in the heap is known for ever from here on -/
theorem Rf.freeze {S : List (List D)} {p : Addr} {o : HO} (f : Rf Γ z S H) (h : H p = some o) (g : z.G p = none) (hr : p ∉ z.r) (ht : ∀ ps, o ≠ .tbl ps) : Ext z (z.add p o) ∧ Rf Γ (z.add p o) S H := by
  have ex : Ext z (z.add p o) := ext_add g
  refine ⟨ex, ⟨fun a u e => ?_, f.slen, fun n ys a e1 e2 => ?_, fun a ha => ?_, f.rnd, f.tab, fun q hq => ?_⟩⟩
  · have e : upd z.G p o a = some u := e
    by_cases ha : a = p
    · subst ha; rw [upd_same] at e; cases e; exact h
    · rw [upd_ne ha] at e; exact f.sub a u e
  · obtain ⟨us, q1, q2⟩ := f.sto n ys a e1 e2
    exact ⟨us, q1, RepL.mono ex ys q2⟩
  · show upd z.G p o a = none
    rw [upd_ne (fun (e : a = p) => hr (by rw [← e]; exact ha))]
    exact f.out a ha
  · obtain ⟨ps, q1, _⟩ := f.tab q hq
    show upd z.G p o q.1 = none
    rw [upd_ne (fun e => by rw [e, h] at q1; exact ht ps (Option.some.inj q1))]
    exact f.tg q hq
theorem Sn.freeze {x : List Addr} {z0 : Fz} {H0 : Hp} {p : Addr} {o : HO} (s : Sn x z0 z H0 H) (g : z.G p = none) (hp : p ∈ x) : Sn x z0 (z.add p o) H0 H := by
  refine ⟨s.ext.trans (ext_add g), s.keep, s.live, fun a u e => ?_, s.rnew⟩
  have e : upd z.G p o a = some u := e
  by_cases ha : a = p
  · rw [ha]; exact .inr (.inr hp)
  · rw [upd_ne ha] at e; exact s.gnew a u e
theorem Sn.wide {x y : List Addr} {z0 : Fz} {H0 : Hp} (s : Sn x z0 z H0 H) (h : ∀ a ∈ x, a ∈ y) : Sn y z0 z H0 H :=
  ⟨s.ext, fun a o e n1 n2 => s.keep a o e n1 (fun q => n2 (h a q)), s.live, fun a o e => (s.gnew a o e).imp id (.imp id (h a)), fun a e => (s.rnew a e).imp id (.imp id (h a))⟩
end
/-! ### fields as they are laid -/
def RepO (Γ : Gm) (z : Fz) : List (Option D) → List (Option V) → Prop
  | [], vs => vs = []
  | none :: ds, vs => ∃ ws, vs = none :: ws ∧ RepO Γ z ds ws
  | some d :: ds, vs => ∃ v ws, vs = some v :: ws ∧ Rep Γ z d v ∧ RepO Γ z ds ws
def putD (i : Nat) (d : D) (ds : List (Option D)) : List (Option D) := (ds ++ List.replicate (i + 1 - ds.length) none).set i (some d)
def allSome : List (Option D) → Option (List D)
  | [] => some []
  | none :: _ => none
  | some d :: ds => (allSome ds).map (d :: ·)
section
variable {Γ : Gm} {z z' : Fz}
theorem RepO.length : ∀ {ds : List (Option D)} {vs : List (Option V)}, RepO Γ z ds vs → ds.length = vs.length
  | [], _, h => by simp only [RepO] at h; subst h; rfl
  | none :: ds, _, h => by simp only [RepO] at h; obtain ⟨ws, rfl, h⟩ := h; rw [List.length_cons, List.length_cons, RepO.length h]
  | some d :: ds, _, h => by simp only [RepO] at h; obtain ⟨v, ws, rfl, _, h⟩ := h; rw [List.length_cons, List.length_cons, RepO.length h]
theorem RepO.mono (e : Ext z z') : ∀ {ds : List (Option D)} {vs : List (Option V)}, RepO Γ z ds vs → RepO Γ z' ds vs
  | [], _, h => by simp only [RepO] at h ⊢; exact h
  | none :: ds, _, h => by simp only [RepO] at h ⊢; obtain ⟨ws, h1, h⟩ := h; exact ⟨ws, h1, RepO.mono e h⟩
  | some d :: ds, _, h => by simp only [RepO] at h ⊢; obtain ⟨v, ws, h1, h2, h⟩ := h; exact ⟨v, ws, h1, Rep.mono e d h2, RepO.mono e h⟩
theorem RepO.nones : ∀ (n : Nat), RepO Γ z (List.replicate n none) (List.replicate n none)
  | 0 => by simp only [List.replicate, RepO]
  | n + 1 => by simp only [List.replicate, RepO]; exact ⟨_, rfl, RepO.nones n⟩
theorem RepO.append : ∀ {ds es : List (Option D)} {vs ws : List (Option V)}, RepO Γ z ds vs → RepO Γ z es ws → RepO Γ z (ds ++ es) (vs ++ ws)
  | [], _, _, _, h, k => by simp only [RepO] at h; subst h; exact k
  | none :: ds, _, _, _, h, k => by simp only [RepO] at h; obtain ⟨us, rfl, h⟩ := h; simp only [List.cons_append, RepO]; exact ⟨_, rfl, h.append k⟩
  | some d :: ds, _, _, _, h, k => by simp only [RepO] at h; obtain ⟨v, us, rfl, h2, h⟩ := h; simp only [List.cons_append, RepO]; exact ⟨v, _, rfl, h2, h.append k⟩
theorem RepO.set {d : D} {v : V} (hv : Rep Γ z d v) : ∀ {ds : List (Option D)} {vs : List (Option V)} (i : Nat), RepO Γ z ds vs → RepO Γ z (ds.set i (some d)) (vs.set i (some v))
  | [], _, i, h => by simp only [RepO] at h; subst h; simp only [List.set_nil, RepO]
  | none :: ds, _, 0, h => by simp only [RepO] at h; obtain ⟨us, rfl, h⟩ := h; simp only [List.set_cons_zero, RepO]; exact ⟨v, _, rfl, hv, h⟩
  | none :: ds, _, i + 1, h => by simp only [RepO] at h; obtain ⟨us, rfl, h⟩ := h; simp only [List.set_cons_succ, RepO]; exact ⟨_, rfl, RepO.set hv i h⟩
  | some _ :: ds, _, 0, h => by simp only [RepO] at h; obtain ⟨_, us, rfl, _, h⟩ := h; simp only [List.set_cons_zero, RepO]; exact ⟨v, _, rfl, hv, h⟩
  | some d :: ds, _, i + 1, h => by simp only [RepO] at h; obtain ⟨u, us, rfl, h2, h⟩ := h; simp only [List.set_cons_succ, RepO]; exact ⟨u, _, rfl, h2, RepO.set hv i h⟩
theorem RepO.put {ds : List (Option D)} {vs : List (Option V)} {d : D} {v : V} (h : RepO Γ z ds vs) (hv : Rep Γ z d v) (i : Nat) : RepO Γ z (putD i d ds) (SlX.putS i v vs) := by
  unfold putD SlX.putS
  rw [h.length]
  exact RepO.set hv i (h.append (RepO.nones _))
theorem RepO.all : ∀ {ds : List (Option D)} {vs : List (Option V)} {es : List D}, RepO Γ z ds vs → allSome ds = some es → ∃ ws, vs = ws.map some ∧ RepL Γ z es ws
  | [], _, _, h, e => by cases e; simp only [RepO] at h; exact ⟨[], h, .nil⟩
  | none :: ds, _, _, h, e => by cases e
  | some d :: ds, _, _, h, e => by
    simp only [allSome, Option.map_eq_some_iff] at e
    obtain ⟨es, e, rfl⟩ := e
    simp only [RepO] at h
    obtain ⟨v, us, rfl, h2, h⟩ := h
    obtain ⟨ws, rfl, h3⟩ := h.all e
    exact ⟨v :: ws, rfl, .cons h2 h3⟩
end
/-! ### __init__ -/
def PoN (Γ : Gm) (W : WX) (s0 dx : Addr) (z0 : Fz) (H0 : Hp) (E : Ends) (z : Fz) (r : RS) : Prop := match r with
  | .rt d m => ∀ z' σ' H', Ext z z' → Sn [s0, dx] z0 z' H0 H' → Rf Γ z' m.S H' → Rep Γ z' d (.ref s0) → E.nx σ' H'
  | .exc c d m => ∀ z' de u σ' H', Ext z z' → Sn [s0, dx] z0 z' H0 H' → Rf Γ z' m.S H' → z'.G de = some (.xd [(("value" : Str), u)]) → Rep Γ z' d u → W (.ref (Γ.cls c)) (some de) σ' H'
  | _ => False
def tN (Γ : Gm) (B : Bs) (W : WX) (dx : Addr) (g : DenS) : TS := fun E σ H => ∃ m z, Rl Γ B z m σ H ∧ PoN Γ W B.s dx B.z B.H E z (g m)
structure BSt (Γ : Gm) (B : Bs) (C dx : Addr) (acc : List (Option D)) (m : M) (z : Fz) (σ : L2.St) (H : Hp) : Prop where
  ex : ∃ B' vs, B'.s = B.s ∧ B'.z = B.z ∧ B'.x = [] ∧ Slf B' dx ∧ SlX.Slt B'.H B.s C dx vs ∧ Sn [B.s, dx] B.z B.z B.H B'.H ∧ Rl Γ B' z m σ H ∧ RepO Γ z acc vs
  s0 : σ[0]? = some (some (.ref B.s))
/-- the last block: self.f = e one after another -/
def tB (Γ : Gm) (B : Bs) (W : WX) (C dx : Addr) (g : List (Option D) → DenS) : TS := fun E σ H => ∃ acc m z, BSt Γ B C dx acc m z σ H ∧ PoN Γ W B.s dx B.z B.H E z (g acc m)
def zseqN (f g : DenS) : DenS := fun m => match f m with
  | .nx m1 => g m1
  | .exc c d m1 => .exc c d m1
  | _ => .bad
def zblk (g : List (Option D) → DenS) : DenS := fun m => match (m.e[0]? : Option Sl) with
  | some .slf => g [] m
  | _ => .bad
def zfld1 (i : Nat) (f : Den) (g : List (Option D) → DenS) : List (Option D) → DenS := fun acc m => match f m with
  | .ok d m1 => g (putD i d acc) m1
  | _ => .bad
def zmade (c : Nat) : List (Option D) → DenS := fun acc m => match allSome acc with
  | some (d :: ds) => .rt (.ins c (d :: ds)) m
  | _ => .bad
section
variable {Γ : Gm} {B : Bs} {W : WX} {X : Cx} {z z' : Fz} {dx C : Addr} {st : Stmt} {rest : List Stmt} {f : DenS} {g : DenS} {k : Den} {gb : List (Option D) → DenS}
theorem PoN.mono {s0 : Addr} {z0 : Fz} {H0 : Hp} {E : Ends} {r : RS} (h : PoN Γ W s0 dx z0 H0 E z r) (e : Ext z z') : PoN Γ W s0 dx z0 H0 E z' r := by
  cases r with
  | rt d m => exact fun z1 σ1 H1 e1 => h z1 σ1 H1 (e.trans e1)
  | exc c d m => exact fun z1 dx u σ1 H1 e1 => h z1 dx u σ1 H1 (e.trans e1)
  | nx m => exact h
  | bk m => exact h
  | ct m => exact h
  | bad => exact h
theorem n_seq (hx : B.x = []) (h1 : PS X st (tS Γ B W f)) (h2 : PSs X rest (tN Γ B W dx g)) : PSs X (st :: rest) (tN Γ B W dx (zseqN f g)) :=
  PSs.imp (pss_cons h1 h2) fun E σ H ⟨m, z, rl, h⟩ => ⟨m, z, rl, by
    unfold zseqN at h
    cases e : f m with
    | nx m1 => rw [e] at h; exact fun z1 σ1 H1 e1 r1 => ⟨m1, z1, r1, PoN.mono h e1⟩
    | rt d m1 => rw [e] at h; exact h.elim
    | bk m1 => rw [e] at h; exact h.elim
    | ct m1 => rw [e] at h; exact h.elim
    | exc c d m1 => rw [e] at h; exact fun z1 de u σ1 H1 e1 r1 q1 q2 => h z1 de u σ1 H1 e1 (r1.sn.wide (fun a ha => by rw [hx] at ha; cases ha)) r1.rf q1 q2
    | bad => rw [e] at h; exact h.elim⟩
end
end Z

set_option Elab.async false
set_option linter.all false
set_option maxRecDepth 100000
set_option maxHeartbeats 4000000
/-! Z31: the rules of __init__'s last block; C(e) -/
namespace Z
open PySem PySem.Spec PyProof.Rows L2 RZ
section
variable {Γ : Gm} {B : Bs} {W : WX} {X : Cx} {z z' : Fz} {dx C : Addr} {rest : List Stmt} {k : Den} {gb : List (Option D) → DenS}
theorem n_blk (h0 : B.x = []) (hx : Slf B dx) (hl : SlX.Slt B.H B.s C dx []) (h : PSs X rest (tB Γ B W C dx gb)) : PSs X rest (tN Γ B W dx (zblk gb)) :=
  PSs.imp h fun E σ H ⟨m, z, rl, q⟩ => by
    have q : PoN Γ W B.s dx B.z B.H E z (match (m.e[0]? : Option Sl) with
      | some .slf => gb [] m
      | _ => .bad) := q
    split at q
    · rename_i e
      have hs : 0 < σ.length := by rw [← rl.len]; exact (List.getElem?_eq_some_iff.mp e).1
      have w := rl.slot 0 _ _ e (List.getElem?_eq_getElem hs)
      refine ⟨[], m, z, ⟨⟨B, [], rfl, rfl, h0, hx, hl, ⟨Ext.refl _, fun _ _ h _ _ _ => h, fun _ o h => ⟨o, h⟩, fun _ _ h => .inl h, fun _ h => .inl h⟩, rl, by simp only [RepO]⟩, ?_⟩, q⟩
      rw [List.getElem?_eq_getElem hs]
      exact congrArg some w
    · exact q.elim
theorem sn_poke {x : List Addr} {z : Fz} {H H' : Hp} {a : Addr} {u : HO} (s : Sn x z z H H') (ha : a ∈ x) : Sn x z z H (upd H' a u) :=
  ⟨s.ext, fun b o e n1 n2 n3 => by rw [upd_ne (fun q => n2 (by rw [q]; exact ha))]; exact s.keep b o e n1 n2 n3, fun b o e => by
    by_cases hb : b = a
    · exact ⟨u, by rw [hb]; exact upd_same⟩
    · rw [upd_ne hb]; exact s.live b o e, fun b o e => .inl e, fun b e => .inl e⟩
theorem slt_rl {m : M} {σ : L2.St} {H : Hp} {vs : List (Option V)} (hx : Slf B dx) (hl : SlX.Slt B.H B.s C dx vs) (r : Rl Γ B z m σ H) : SlX.Slt H B.s C dx vs := by
  rcases hl with ⟨h, e⟩ | ⟨h, h'⟩
  · exact .inl ⟨(r.old hx.g1 hx.r1 hx.x1 h (fun ps => nofun)).2.2.1, e⟩
  · exact .inr ⟨(r.old hx.g1 hx.r1 hx.x1 h (fun ps q => by unfold SlX.SlO at q; cases q)).2.2.1, (r.old hx.g2 hx.r2 hx.x2 h' (fun ps => nofun)).2.2.1⟩
theorem b_cons {fl : Str} {p : Addr} {i : Nat} {value : Expr} {q1 q2 q4 : Pos} (hs : SlX.SCls X.K C) (ht : SlX.Slot1 X.K C fl p i) (hN : X.N[0]? = some ("self" : Str)) (hvs : Vis X.env.scope "self") (hv : ∀ B', PE X value (tE Γ B' W k)) (h2 : PSs X rest (tB Γ B W C dx gb))
    (hw : swapsWith value (some (.Attribute (.Name "self" q1) fl q2)) q4.line X.env = pure false) : PSs X (.Assign [.Attribute (.Name "self" q1) fl q2] value q4 :: rest) (tB Γ B W C dx (zfld1 i k gb)) := by
  have h1 : PS X (.Assign [.Attribute (.Name "self" q1) fl q2] value q4) (fun E σ H => ∃ acc m z d m1, BSt Γ B C dx acc m z σ H ∧ k m = .ok d m1 ∧ ∀ z1 H1, Ext z z1 → BSt Γ B C dx (putD i d acc) m1 z1 σ H1 → E.nx σ H1) := by
    refine ⟨fun pins s σ H E I ⟨acc, m, z, d, m1, ⟨⟨B', vs, e1, e2, e3, hx, hl, sn, rl, ro⟩, s0⟩, hk, hq⟩ => ?_⟩
    rw [← e1] at hl
    refine plainObj_wpAny_Assign_Attribute (thn ((hv B').run pins s σ H (fun y H1 => ∃ z1, Ext z z1 ∧ Rl Γ B' z1 m1 σ H1 ∧ Rep Γ z1 d y) I ⟨m, z, rl, by rw [hk]; exact fun z1 b H1 x1 r1 p1 => ⟨z1, x1, r1, p1⟩⟩) fun u s1 ⟨y, H1, I1, ry, z1, x1, r1, p1⟩ =>
      thn ((pe_var hN hvs).run pins s1 σ H1 (fun v G => v = .ref B.s ∧ G = H1) I1 ⟨.ref B.s, s0, rfl, rfl⟩) fun ov s2 ⟨x, H2, I2, rx, ex, eH⟩ => ?_) hw
    subst ex
    subst eH
    obtain rfl : ov = Value.ref B.s := rx
    have hl2 := slt_rl hx hl r1
    obtain ⟨ne, sl, mA, a1, a2, a3, a4⟩ := SlX.slt_at I2 hl2
    have c1 : ∀ c q, H2 c = some (LamX.CodeO c q) → c ≠ B'.s := fun c q h e => by
      obtain ⟨⟨oc, vs, tt, hoc, hdc, hvc⟩, _, _⟩ := I2.hok c _ h
      rw [e, a1] at hoc
      cases hoc
      cases hdc
    have c2 : ∀ c q, H2 c = some (LamX.CodeO c q) → c ≠ dx := fun c q h e => by
      obtain ⟨⟨oc, vs, tt, hoc, hdc, hvc⟩, _, _⟩ := I2.hok c _ h
      obtain ⟨o, es, ep, e', d', _⟩ := a3
      rw [e, e'] at hoc
      cases hoc
      rw [d'] at hdc
      cases hdc
    rw [← e1]
    refine SlX.setslot_ok I2 hl2 hs ht ry fun s3 I3 => ⟨σ, _, I3, hq z1 _ x1 ⟨?_, s0⟩⟩
    obtain ⟨o1, k1, t1⟩ := hx.h1
    obtain ⟨o2, k2, t2⟩ := hx.h2
    have r2 := r1.poke1 (u := .xd []) hx.g2 hx.r2 hx.x2 k2 t2 (fun ps => nofun) c2
    have r3 := r2.poke1 (a := B'.s) (o := o1) (u := SlX.SlO B'.s C dx (SlX.putS i y vs)) hx.g1 hx.r1 hx.x1 (by show upd B'.H dx _ B'.s = _; rw [upd_ne (Ne.symm hx.ne)]; exact k1) t1 (fun ps q => by unfold SlX.SlO at q; cases q) (fun c q h => by
      by_cases hc : c = dx
      · rw [hc, upd_same] at h
        unfold LamX.CodeO at h
        cases h
      · rw [upd_ne hc] at h
        exact c1 c q h)
    refine ⟨⟨upd (upd B'.H dx (.xd [])) B'.s (SlX.SlO B'.s C dx (SlX.putS i y vs)), B'.z, B'.x, B'.s, B'.fr⟩, SlX.putS i y vs, e1, e2, e3, ⟨hx.g1, hx.g2, hx.r1, hx.r2, hx.x1, hx.x2, hx.ne, ⟨_, upd_same, fun ps q => by unfold SlX.SlO at q; cases q⟩, ⟨.xd [], ?_, fun ps => nofun⟩⟩, .inr ⟨?_, ?_⟩, ?_, r3, (ro.mono x1).put p1 i⟩
    · show upd (upd B'.H dx _) B'.s _ dx = _
      rw [upd_ne hx.ne, upd_same]
    · show upd (upd B'.H dx _) B'.s _ B.s = _
      rw [e1, upd_same]
    · show upd (upd B'.H dx _) B'.s _ dx = _
      rw [upd_ne hx.ne, upd_same]
    · rw [e1]
      exact sn_poke (sn_poke sn (by simp)) (by simp)
  refine PSs.imp (pss_cons h1 h2) fun E σ H ⟨acc, m, z, b, h⟩ => ?_
  unfold zfld1 at h
  cases e : k m with
  | ok d m1 =>
    rw [e] at h
    exact ⟨acc, m, z, d, m1, b, e, fun z1 H1 x1 b1 => ⟨_, m1, z1, b1, PoN.mono h x1⟩⟩
  | exc c d m1 => rw [e] at h; exact h.elim
  | bad => rw [e] at h; exact h.elim
theorem b_nil {c : Nat} (hC : Γ.own c = (C, none)) : PSs X [] (tB Γ B W C dx (zmade c)) := by
  refine PSs.imp pss_nil fun E σ H ⟨acc, m, z, ⟨⟨B', vs, e1, e2, e3, hx, hl, sn, rl, ro⟩, s0⟩, h⟩ => ?_
  unfold zmade at h
  cases e : allSome acc with
  | none => rw [e] at h; exact h.elim
  | some ds =>
    cases ds with
    | nil => rw [e] at h; exact h.elim
    | cons d ds =>
      rw [e] at h
      obtain ⟨ws, rfl, rw_⟩ := ro.all e
      rw [← e1] at hl
      rcases hl with ⟨_, q⟩ | ⟨l1, l2⟩
      · have hlen := rw_.length
        rw [List.map_eq_nil_iff] at q
        rw [q] at hlen
        cases hlen
      · have ns : ∀ ps, SlX.SlO B'.s C dx (ws.map some) ≠ .tbl ps := fun ps q => by unfold SlX.SlO at q; cases q
        obtain ⟨k1, k2, k3, _⟩ := rl.old hx.g1 hx.r1 hx.x1 l1 ns
        obtain ⟨j1, j2, j3, _⟩ := rl.old hx.g2 hx.r2 hx.x2 l2 (fun ps => nofun)
        obtain ⟨x1, f1⟩ := rl.rf.freeze k3 k1 k2 ns
        have g2 : (z.add B'.s (SlX.SlO B'.s C dx (ws.map some))).G dx = none := by
          show upd z.G _ _ dx = none
          rw [upd_ne hx.ne]
          exact j1
        obtain ⟨x2, f2⟩ := f1.freeze (p := dx) (o := .xd []) j3 g2 j2 (fun ps => nofun)
        have s1 : Sn [B.s, dx] B.z z B.H H := by
          have q := rl.sn
          rw [e2, e3] at q
          exact sn.trans q (fun c hc => nomatch hc)
        refine h _ σ H (x1.trans x2) ((s1.freeze k1 (by rw [e1]; simp)).freeze g2 (by simp)) f2 ?_
        simp only [Rep]
        refine ⟨B.s, dx, ws, rfl, ?_, RepL.mono (x1.trans x2) _ rw_⟩
        unfold InsG
        rw [hC]
        rw [← e1]
        exact ⟨x2.g _ _ upd_same, upd_same⟩
end
/-! ### the def __init__ -/
def endN (r : RS) : RF := match r with
  | .rt d m => .ok d m.S
  | .exc c d m => .exc c d m.S
  | _ => .bad
def initFn (N : List Str) (n : Nat) (f : DenS) : Fn := fun ds S => if ds.length = n then endN (f ⟨.slf :: padE N ds, S⟩) else .bad
def PoNF (Γ : Gm) (x dx : Addr) (z : Fz) (H : Hp) (r : RF) (Q : VK) (E : XK) : Prop := match r with
  | .ok d S => ∀ z' H', Sn [x, dx] z z' H H' → Rf Γ z' S H' → Rep Γ z' d (.ref x) → Q .non H'
  | .exc c d S => ∀ z' de u H', Sn [x, dx] z z' H H' → Rf Γ z' S H' → z'.G de = some (.xd [(("value" : Str), u)]) → Rep Γ z' d u → E (.ref (Γ.cls c)) (some de) H'
  | .bad => False
def spN (Γ : Gm) (C : Addr) (n : Nat) (φ : Fn) : Sp := fun vs H Q E => ∃ x dx ws, vs = .ref x :: ws ∧ ws.length = n ∧ ∃ z ds S, Slf ⟨H, z, [], x, false⟩ dx ∧ H x = some (.ins C dx []) ∧ Rf Γ z S H ∧ RepL Γ z ds ws ∧ PoNF Γ x dx z H (φ ds S) Q E
section
variable {Γ : Gm} {P : Program} {w : World} {mg : Str → Option Value} {base : Heap} {x q : Str} {params : Arguments} {body : List Stmt} {sc : Scope} {f C : Addr} {fd : FuncData} {N ps : List Str} {n k : Nat} {g : DenS} {n0 : Str}
theorem startN_rl {z : Fz} {S : List (List D)} {H : Hp} {ds : List D} {vs : List V} {xa : Addr} (rf : Rf Γ z S H) (rp : RepL Γ z ds vs) : Rl Γ ⟨H, z, [], xa, false⟩ z ⟨.slf :: padE N ds, S⟩ (start (n0 :: N) (.ref xa :: vs)) H := by
  have r0 := start_rl (N := N) rf rp
  have e : start (n0 :: N) (.ref xa :: vs) = some (.ref xa) :: start N vs := by simp [L2.start]
  rw [e]
  refine ⟨rf, Sn.refl _ _ _, ?_, fun i s w h1 h2 => ?_, fun i j kx ky xs ys a hij h1 h2 h3 h4 => ?_⟩
  · have := r0.len
    simpa using this
  · cases i with
    | zero =>
      simp at h1 h2
      subst h1; subst h2
      rfl
    | succ i =>
      have q := r0.slot i s w (by simpa using h1) (by simpa using h2)
      cases s with
      | slf =>
        exfalso
        have h1 : (padE N ds)[i]? = some .slf := by simpa using h1
        have hm := List.mem_of_getElem? h1
        unfold padE at hm
        simp at hm
      | un => trivial
      | val d => exact q
      | box bk xs => exact q
  · cases i with
    | zero => simp at h1
    | succ i =>
      cases j with
      | zero => simp at h2
      | succ j => exact r0.apart i j kx ky xs ys a (by omega) (by simpa using h1) (by simpa using h2) (by simpa using h3) (by simpa using h4)
theorem okN {dvs : List V} {kws : List (Str × V)} (F : FunD Γ.K x q params body sc dvs kws f fd) (S : FnScope (n0 :: N) ps sc) (hn : n + 1 = ps.length)
    (hb : ∀ (cdv : Value) (A : Around) (outer : List Env) (s : Shared) (H : Hp) (E : XK) (z : Fz) (xa dx : Addr), A.guards = some [] → Room k (A.deeper (envOfC q sc s.heap.objs.size f cdv)) → Slf ⟨H, z, [], xa, false⟩ dx → SlX.Slt H xa C dx [] →
      PSs (cxOf (L2.CX P w) P w Γ.K mg base (n0 :: N) q sc f cdv A outer s H E) body (tN Γ ⟨H, z, [], xa, false⟩ (fun c d _ H => E c d H) dx g)) : FnG P w Γ.K mg base (k + 1) f fd ps (spN Γ C n (initFn N n g)) := by
  obtain ⟨oc, od, dV, kV, doc, pm, an, cdv, ct, osl, rfl, lk, hcd, _, _⟩ := F.ex
  refine fnG_of lk hcd S (fun vs H Q E h => by obtain ⟨_, _, ws, rfl, h, _⟩ := h; rw [← hn, List.length_cons, h]) fun A outer s H vs Q E hg hr h => ?_
  obtain ⟨xa, dx, ws, rfl, hw, z, ds, S0, hs, hx, rf, rp, po⟩ := h
  refine ⟨_, hb cdv A outer s H E z xa dx hg hr hs (.inl ⟨hx, rfl⟩), ⟨.slf :: padE N ds, S0⟩, z, startN_rl rf rp, ?_⟩
  unfold initFn at po
  rw [if_pos (by rw [rp.length]; exact hw)] at po
  cases e : g ⟨.slf :: padE N ds, S0⟩ with
  | nx m => rw [e] at po; exact po.elim
  | rt d m => rw [e] at po; exact fun z' σ' H' _ sn rf r => po z' H' sn rf r
  | bk m => rw [e] at po; exact po.elim
  | ct m => rw [e] at po; exact po.elim
  | exc c d m => rw [e] at po; exact fun z' de u σ' H' _ sn rf g r => po z' de u H' sn rf g r
  | bad => rw [e] at po; exact po.elim
end
/-! ### C(e) -/
structure Mak (Γ : Gm) (P : Program) (w : World) (mg : Str → Option Value) (base : Heap) (x : Str) (k n : Nat) (φ : Fn) : Prop where
  ex : ∃ C f fd ps, Mk Γ.K C f ∧ FnG P w Γ.K mg base k f fd ps (spN Γ C n φ) ∧ mg x = some (.ref C) ∧ Binds Γ.K fd ps []
theorem make_guards {A : Around} {C : Addr} {us : List Value} {kw : List (Str × Value)} (h : A.guards = some []) : (A.under (.builtin "type.__call__" ⟨.ref C :: us, kw⟩)).guards = some [] := by
  simp [Around.under, Code.guards, Code.isGuard, guardIds, pushGuards, h]
section
variable {Γ : Gm} {B : Bs} {W : WX} {X : Cx} {σ : L2.St} {H : Hp} {k n : Nat} {f C : Addr} {fd : FuncData} {ps : List Str} {φ : Fn} {x : Str} {p pos : Pos} {e : Expr} {es : List Expr} {fs : DenL}
theorem run_makeG {pins : List (Addr × Obj)} {s : Shared} {Q : VK} {us : List Value} {vs : List V} {sp : Sp} (M : Mk X.K C f) (F : FnG X.prog X.w X.K X.mg X.base k f fd ps sp) (hg : X.A.guards = some []) (hr : Room (k + 1) X.A) (hb : Binds X.K fd ps []) (tk : Takes X W)
    (I : Inv X pins σ H s) (r : Vals vs us)
    (h : ∀ x dx, H x = none → H dx = none → dx ≠ x → sp (.ref x :: vs) (upd (upd H dx (.own x)) x (.ins C dx [])) (fun v H2 => v = .non ∧ Q (.ref x) H2) (WE W σ)) :
    wpAny (model X.prog X.w) X.A (call (.ref C) us) (EP X pins σ Q) X.xe s := by
  have hq := h (s.heap.objs.size + 1) s.heap.objs.size (I.hok.fresh (Nat.le_succ _)) (I.hok.fresh (Nat.le_refl _)) (Nat.ne_of_lt (Nat.lt_succ_self _))
  have I2 := Inv.made (C := C) I
  have r2 : Vals (V.ref (s.heap.objs.size + 1) :: vs) (Value.ref (s.heap.objs.size + 1) :: us) := .cons rfl r
  have hl : (Value.ref (s.heap.objs.size + 1) :: us ++ []).length = ps.length := by
    have e := r2.length
    rw [F.len _ _ _ _ hq] at e
    rw [List.append_nil]
    exact e.symm
  have b0 := hb _ (Value.ref (s.heap.objs.size + 1) :: us) I2.kIn hl
  rw [List.append_nil] at b0
  refine wpAny_call (make_map (f := f) I.kIn M.makes M.init (beq_iff_eq.mp M.fn) (codeAny_mono (F.run _ X.stack _ _ ⟨Value.ref (s.heap.objs.size + 1) :: us, []⟩ (Value.ref (s.heap.objs.size + 1) :: us) _ _ (WE W σ) (make_guards hg) (hr.make C us [])
    (I2.env0.make C us []) b0 r2 hq) fun r s' hq' => ?_))
  match r, hq' with
  | .error e, hq' => exact passAt tk σ pins _ _ e s' I2 hq'
  | .ok (.ret u), hq' =>
    obtain ⟨v, H', I3, rv, ev, q3⟩ := I2.after hq'
    subst ev
    exact ⟨rv, ⟨V.ref (s.heap.objs.size + 1), H', I3, rfl, q3⟩⟩
theorem limbo2 {z : Fz} {S : List (List D)} {x dx : Addr} (f : Rf Γ z S H) (hx : H x = none) (hd : H dx = none) (ne : dx ≠ x) : Rf Γ z S (upd (upd H dx (.own x)) x (.ins C dx [])) ∧ Slf ⟨upd (upd H dx (.own x)) x (.ins C dx []), z, [], x, false⟩ dx ∧ Sn [] z z H (upd (upd H dx (.own x)) x (.ins C dx [])) := by
  have f1 := f.limbo (o := .own x) hd
  have hx1 : upd H dx (.own x) x = none := by rw [upd_ne (Ne.symm ne)]; exact hx
  refine ⟨f1.limbo hx1, ⟨f.gnone hx, f.gnone hd, f.rnone hx, f.rnone hd, (fun h => nomatch h), (fun h => nomatch h), ne, ⟨_, upd_same, fun ps => nofun⟩, ⟨.own x, by show upd (upd H dx _) x _ dx = _; rw [upd_ne ne, upd_same], fun ps => nofun⟩⟩, (sn_limbo hd).trans0 (sn_limbo hx1)⟩
theorem z_make (M : Mk X.K C f) (F : FnG X.prog X.w X.K X.mg X.base k f fd ps (spN Γ C n φ)) (hgd : X.A.guards = some []) (hr : Room (k + 1) X.A) (hg : Gl X x) (hm : X.mg x = some (.ref C)) (hb : Binds X.K fd ps []) (tk : Takes X W)
    (ha : PA X (e :: es) (tA Γ B W fs)) (hn : (e :: es).length = n) (hdb : (x == ("__debug__" : Str)) = false) (he : starEach (e :: es) X.env = (false, eval e X.env) :: starEach es X.env) (hpl : (backTo pos (starEach es X.env)).any (·.1) = false) (hlen : ∀ m ds m1, fs m = .ok ds m1 → ds.length = (e :: es).length) :
    PE X (.Call (.Name x p) (e :: es) [] pos) (tE Γ B W (zcall φ [] fs)) := by
  refine ⟨fun pins s σ H Q I ⟨m, z, rl, h⟩ => ?_⟩
  have h' : Po Γ B W (rpE Γ) σ z ((fs m).bind fun ds m1 => backR (φ (ds ++ []) m1.S) m1) Q := h
  have hA : tA Γ B W fs σ H fun vs H1 => ∀ x dx, H1 x = none → H1 dx = none → dx ≠ x → spN Γ C n φ (.ref x :: vs) (upd (upd H1 dx (.own x)) x (.ins C dx [])) (fun v H2 => v = .non ∧ Q (.ref x) H2) (WE W σ) := by
    refine ⟨m, z, rl, ?_⟩
    cases e0 : fs m with
    | bad => rw [e0] at h'; exact h'
    | exc c d m1 => rw [e0] at h'; exact h'
    | ok ds m1 =>
      rw [e0] at h'
      intro z1 us H1 x1 r1 p1 xa dx hx hd ne
      obtain ⟨f2, s2, n2⟩ := limbo2 (C := C) r1.rf hx hd ne
      refine ⟨xa, dx, us, rfl, by rw [← p1.length, hlen m ds m1 e0, hn], z1, ds, m1.S, s2, upd_same, f2, p1, ?_⟩
      have back : ∀ {z' : Fz} {H' : Hp}, Sn [xa, dx] z1 z' (upd (upd H1 dx (.own xa)) xa (.ins C dx [])) H' → Sn [] z1 z' H1 H' := fun s => n2.trans s (fun c hc => by
        simp only [List.mem_cons, List.not_mem_nil, or_false] at hc
        rcases hc with rfl | rfl
        · exact .inl hx
        · exact .inl hd)
      have h2 : Po Γ B W (rpE Γ) σ z (backR (φ (ds ++ []) m1.S) m1) Q := h'
      rw [List.append_nil] at h2
      cases e1 : φ ds m1.S with
      | bad => rw [e1] at h2; exact h2
      | ok d S => rw [e1] at h2; exact fun z' H' sn rf r => ⟨rfl, h2 z' _ H' (x1.trans (back sn).ext) (r1.call rf (back sn)) r⟩
      | exc c d S => rw [e1] at h2; exact fun z' de u H' sn rf g r => h2 z' de u H' (x1.trans (back sn).ext) (r1.call rf (back sn)) g r
  refine wpAny_Call_Name_kw (ld_glob I hg hm ?_ hdb)
  refine PySem.W.callWith_K (h₀ := X.base) I.ok.mod.kin M.kp (thn (ha.run pos pins s σ H _ I hA) fun us s1 ⟨vs, H1, I1, r, q⟩ => ⟨I1.kIn, ?_⟩) he hpl
  exact run_makeG M F hgd hr hb tk I1 r q
theorem qmake {k' : Nat} (C : Mak Γ X.prog X.w X.mg X.base x k n φ) (hr : Room k' X.A) (hk : k + 1 ≤ k') (hgd : X.A.guards = some []) (tk : Takes X W) (ha : PAL X Γ B W (e :: es) fs) (hK : X.K = Γ.K := by rfl) (hg : Gl X x := by rfl) (hn : (e :: es).length = n := by rfl) (hdb : (x == ("__debug__" : Str)) = false := by decide)
    (he : starEach (e :: es) X.env = (false, eval e X.env) :: starEach es X.env := by rfl) (hpl : (backTo pos (starEach es X.env)).any (·.1) = false := by rfl) : PE X (.Call (.Name x p) (e :: es) [] pos) (tE Γ B W (zcall φ [] fs)) := by
  obtain ⟨C, f, fd, ps, M, F, hm, hb⟩ := C.ex
  rw [← hK] at M F hb
  exact z_make M F hgd (hr.mono hk) hg hm hb tk ha.pa hn hdb he hpl ha.len
end
end Z

set_option Elab.async false
set_option linter.all false
set_option maxRecDepth 100000
set_option maxHeartbeats 4000000
/-! Z32: len(set(texts)); a, *b = list -/
namespace Z
open PySem PySem.Spec PyProof.Rows L2 RZ
def addN (L : List Str) (x : Str) : List Str := if x ∈ L then L else L ++ [x]
/-- each text once -/
def dis (xs : List Str) : List Str := xs.foldl addN []
theorem mem_addN {L : List Str} {x k : Str} : k ∈ addN L x ↔ k ∈ L ∨ k = x := by
  unfold addN
  split
  · rename_i h
    exact ⟨.inl, fun q => q.elim id fun e => e ▸ h⟩
  · simp
theorem dis_snoc {xs : List Str} {x : Str} : dis (xs ++ [x]) = addN (dis xs) x := by simp [dis, List.foldl_append]
theorem dis_le : ∀ (xs acc : List Str), (xs.foldl addN acc).length ≤ acc.length + xs.length
  | [], acc => by simp
  | x :: xs, acc => by
    have h := dis_le xs (addN acc x)
    have h2 : (addN acc x).length ≤ acc.length + 1 := by unfold addN; split <;> simp
    simp only [List.foldl_cons, List.length_cons]
    omega
section
variable {prog : Program} {w : World} {A : Around} {R : Result → Shared → Prop} {I : Addr} {fp wr : List Addr} {G : Array GenState → Array GenState → Prop} {n : Nat} {P : Nat → Value → Prop} {St : Nat → Shared → Prop}
abbrev TxSet (prog : Program) (w : World) (h : Heap) (S : Addr) (L : List Str) : Prop := h.SetOf (PySem.strKind prog w) S (fun k => decide (k ∈ L)) L.length
theorem TxSet.keep {h h' : Heap} {S : Addr} {L : List Str} (x : TxSet prog w h S L) (k : ∀ o, h.get? S = some o → h'.get? S = some o) : TxSet prog w h' S L := by
  obtain ⟨o, es, ep, t, ho, more⟩ := x
  exact ⟨o, es, ep, t, k _ ho, more⟩
theorem fillX (W : WalksS prog w A.in1 I fp wr G n P St) (S : Addr) (no : S ∉ fp) (xs : List Str) (hl : xs.length = n) (few : n + 1 < scanBound) (hv : ∀ i v, P i v → ∃ t, v = .str (xs.getD i Str.empty) t) :
    ∀ (j i : Nat) (s : Shared), n - i = j → i ≤ n → St i s → TxSet prog w s.heap S (dis (xs.take i)) → (∀ s', Moved (S :: wr) G s s' → TxSet prog w s'.heap S (dis xs) → R (.ok (.ret .none)) s') → codeAny (model prog w) A (.builtin "set.update.loop" ⟨[.ref S, .ref I], []⟩) R s := by
  have no2 : S ∉ wr := fun q => no (W.sub _ q)
  have up : ∀ b ∈ wr, b ∈ S :: wr := fun b q => List.mem_cons_of_mem _ q
  intro j
  induction j with
  | zero =>
    intro i s e1 e2 st hS k
    obtain rfl : i = n := by omega
    refine codeAny_builtin PyProof.Rows.F.entry_set_update_loop ?_
    rw [Around.under_plainId PyProof.Rows.F.plain_set_update_loop _]
    refine wpAny_bind (m := pyNext (.ref I)) (W.done s _ _ st fun s' mv => wpAny_pure (k s' (mv.mono up) ?_))
    rw [← hl, List.take_length] at hS
    exact hS.keep fun o q => mv.heap S o no2 q
  | succ j ih =>
    intro i s e1 e2 st hS k
    have lt : i < n := by omega
    refine codeAny_builtin PyProof.Rows.F.entry_set_update_loop ?_
    rw [Around.under_plainId PyProof.Rows.F.plain_set_update_loop _]
    refine wpAny_bind (m := pyNext (.ref I)) (W.item i s _ _ lt st fun v s1 pv st1 mv => ?_)
    obtain ⟨t, rfl⟩ := hv i v pv
    have S1 := hS.keep fun o q => mv.heap S o no2 q
    refine wpAny_bind (m := holding [Value.str (xs.getD i Str.empty) t] (setAdd S (.str (xs.getD i Str.empty) t))) (wpAny_holding ?_)
    unfold setAdd
    refine wpAny_holding (wpAny_bind ((PySem.strKind prog w).pyHash (k := xs.getD i Str.empty) (strKind_is _ _ _ _) ?_))
    have room : (dis (xs.take i)).length + 1 < scanBound := by
      have q := dis_le (xs.take i) []
      rw [List.length_take] at q
      have : (dis (xs.take i)).length ≤ ([] : List Str).length + min i xs.length := q
      simp at this
      omega
    refine wpAny_setAddHashed_of (knd := PySem.strKind prog w) (s := { s1 with toks := s1.toks + 1 }) (strKind_is _ _ _ _) rfl S1 room fun h2 sb S2 => ?_
    have nx : TxSet prog w h2 S (dis (xs.take (i + 1))) := by
      have li : i < xs.length := by omega
      have e : xs.take (i + 1) = xs.take i ++ [xs.getD i Str.empty] := by
        rw [List.take_succ, List.getElem?_eq_getElem li, List.getD_eq_getElem?_getD, List.getElem?_eq_getElem li]
        rfl
      refine PyProof.Rows.SetOf_congr S2 (fun k => ?_) ?_
      · rw [e, dis_snoc, ← Bool.decide_or, decide_eq_decide, mem_addN]
      · rw [e, dis_snoc]
        unfold addN
        by_cases q : xs.getD i Str.empty ∈ dis (xs.take i)
        · rw [if_pos q, if_pos (decide_eq_true q)]
        · rw [if_neg q, if_neg (by simpa using q), List.length_append, List.length_singleton]
    have same : ∀ b o, b ≠ S → s1.heap.get? b = some o → h2.get? b = some o := fun b o nb q => by rw [sb.2 b nb]; exact q
    exact wpAny_pure ⟨plainId_quiet PyProof.Rows.F.plain_set_update_loop _, ih (i + 1) _ (by omega) lt (W.frame _ s1 _ _ st1 (Nat.le_succ _) fun b hb o q => same b o (fun z => no (z ▸ hb)) q) nx fun s3 mv3 S3 =>
      k s3 (Moved.trans W.gtrans ((mv.mono up).then_heap (Nat.le_succ _) fun b o hb q => same b o (fun z => hb (by rw [z]; exact List.mem_cons_self)) q) mv3) S3⟩
end
section
variable {prog : Program} {w : World} {A : Around} {E : Value → Shared → Prop} {s : Shared}
abbrev setO (led : Bool) : Obj := { cls := .type "set", dict := none, data := .set #[] 0 (.fresh 0 0 led) }
theorem call_setX {l : Addr} {items : Array Value} {xs : List Str} {Q : Value → Shared → Prop} (hh : A.handled = none) (hl : s.heap.IsList l items) (hi : PyProof.Rows.StrsAre items.toList xs) (few : xs.length + 1 < scanBound)
    (h : ∀ (h' : Heap) (tk : Nat), TxSet prog w h' s.heap.objs.size (dis xs) → (∀ b o, b < s.heap.objs.size → s.heap.get? b = some o → h'.get? b = some o) → Q (.ref s.heap.objs.size) { s with heap := h', toks := tk }) :
    wpAny (model prog w) A (call (.type "set") [.ref l]) Q E s := by
  obtain ⟨c, tl, hmro⟩ := PySem.F.called_set.mro
  have f1 := PySem.F.called_set.made
  have f2 := PySem.F.called_set.sub
  have f3 := PySem.F.called_set.notType
  have f4 := PySem.F.called_set.canCreate
  have f5 := PySem.F.typeCall_set_1 (.ref l)
  refine wpAny_call (codeAny_of_tree ?_)
  show wpAny _ _ (callAny (.type "set") _) _ _ s
  refine wpAny_pure ⟨Code.quiet_builtin _ (by decide +kernel), codeAny_builtin PySem.F.entry_type_call ?_⟩
  rw [Around.under_plain (weight_type_call_type "set" [.ref l] []) rfl]
  repeat (any_goals (first | assumption | wp_step))
  refine codeAny_mono (code_set_new_1 (.ref l) (E := E) (Q₁ := fun v t => ∃ led, v = .ref s.heap.objs.size ∧ t = { s with heap := s.heap.push (setO led) }) fun led => ⟨led, rfl, rfl⟩) fun r t hr => ?_
  match r, hr with
  | .error e, hr => exact hr
  | .ok (.ret v), hr =>
    obtain ⟨led, rfl, rfl⟩ := hr
    have at0 : (s.heap.push (setO led)).get? s.heap.objs.size = some (setO led) := Heap.get?_push_size _ rfl
    have ty : Shared.TypeIs { s with heap := s.heap.push (setO led) } (.ref s.heap.objs.size) "set" := ⟨_, at0, rfl⟩
    have g1 := PySem.F.called_set.init.lookup
    have g2 := PySem.F.called_set.init.bind (.ref s.heap.objs.size)
    repeat (any_goals (first | assumption | wp_step))
    refine codeAny_mono (codeAny_call_builtin (R := wants (fun u t => u = .none ∧ ∃ h' tk, t = { s with heap := h', toks := tk } ∧ TxSet prog w h' s.heap.objs.size (dis xs) ∧ ∀ b o, b < s.heap.objs.size → s.heap.get? b = some o → h'.get? b = some o) E) PySem.F.called_set.init.plain PySem.F.entry_set_init (check_set_init_1 ty ?_)) fun r2 t2 hr2 => ?_
    · obtain ⟨ol, hol, hcl, nl, hdl⟩ := hl
      obtain ⟨oc, od, da, os⟩ := ol
      dsimp only at hcl hdl
      subst hcl hdl
      have lat : (s.heap.push (setO led)).get? l = some { cls := .type "list", dict := od, data := .seq items nl, slots := os } := Heap.get?_push_of_some _ hol
      have lis : (s.heap.push (setO led)).IsList l items := ⟨_, lat, rfl, nl, rfl⟩
      have n1 := PySem.F.sub_list_set
      have n2 := PySem.F.sub_list_frozenset
      have n3 : (Value.type "list" == Value.type "dict") = false := by decide
      unfold Builtin.«set.__init__» noKeywords Builtin.Frozenset.updateFrom
      generalize eP : pyIter = PI
      wp_walk
      subst eP
      refine wpAny_pyIter_list lis (wpAny_bind (wpAny_runValue ?_))
      have lt : l < s.heap.objs.size := Heap.lt_size hol
      have sz : (s.heap.push (setO led)).objs.size = s.heap.objs.size + 1 := Heap.size_push ..
      have len : xs.length = items.size := by rw [← StrsAre.len_eq hi, Array.length_toList]
      refine fillX ((Walks.list (by simp [hh]) _ l (by rw [sz]; exact Nat.ne_of_lt (Nat.lt_succ_of_lt lt)) items).toS) s.heap.objs.size (by rw [sz]; simp only [List.mem_cons, List.not_mem_nil, or_false, not_or]; exact ⟨Nat.ne_of_lt (Nat.lt_succ_self _), Nat.ne_of_gt lt⟩) xs len (by rw [← len]; exact few)
        (fun i v q => SS.strs_at hi i v (by rw [Array.getElem?_toList]; exact q)) (items.size - 0) 0 _ (by omega) (Nat.zero_le _) ⟨⟨_, Heap.get?_push_size _ rfl, rfl, rfl⟩, lis.push _⟩ ?_ fun t mv S3 => ?_
      · exact PyProof.Rows.SetOf_congr ((PyProof.Rows.setObjOf_fresh (knd := PySem.strKind prog w) led).setOf (Heap.get?_push_of_some _ at0) (by unfold scanBound; omega)) (fun k => by simp [dis]) (by simp [dis])
      · obtain ⟨h', g', d', tk', os'⟩ := t
        have m1 : g' = s.gens := mv.gens
        have m2 : d' = s.drawn := mv.drawn
        have m3 : os' = s.os := mv.os
        subst m1 m2 m3
        show wpAny _ _ _ _ _ _
        refine wpAny_pure (wpAny_pure ⟨rfl, h', tk', rfl, S3, fun b o lb e => mv.heap b o ?_ (Heap.get?_push_of_some _ (Heap.get?_push_of_some _ e))⟩)
        rw [sz]
        simp only [List.mem_cons, List.not_mem_nil, or_false, not_or]
        exact ⟨Nat.ne_of_lt lb, Nat.ne_of_lt (Nat.lt_succ_of_lt lb)⟩
    · match r2, hr2 with
      | .error e, hr2 => exact hr2
      | .ok (.ret u), hr2 =>
        obtain ⟨rfl, h', tk, rfl, S3, k3⟩ := hr2
        repeat (any_goals (first | assumption | wp_step))
        exact h _ _ S3 k3
end
section
variable {Γ : Gm} {B : Bs} {W : WX} {X : Cx} {a : Expr} {f : Den}
def lenSetD : D → Option D
  | .lst ds => (txtsD ds).bind fun xs => if xs.length < 1000 then some (.int (dis xs).length) else none
  | _ => none
def zlenSet (f : Den) : Den := fun m => (f m).bind fun d m1 => ofO (lenSetD d) m1
theorem strs_of : ∀ {xs : List Str} {us : List Value}, Vals (xs.map V.str) us → PyProof.Rows.StrsAre us xs
  | [], _, .nil => .nil
  | x :: xs, _, .cons r t => by
    obtain ⟨tk, rfl⟩ := r
    exact .cons x tk (strs_of t)
theorem qlenSet {p p2 q pos : Pos} (M : Bn X.mg) (ha : PE X a (tE Γ B W f)) (hc : X.calm = true := by rfl) (hg : Gl X "len" := by rfl) (hg2 : Gl X "set" := by rfl) (na : starEach [a] X.env = (false, eval a X.env) :: starEach [] X.env := by rfl) :
    PE X (.Call (.Name "len" p) [.Call (.Name "set" p2) [a] [] q] [] pos) (tE Γ B W (zlenSet f)) := by
  refine ⟨fun pins s σ H Q I ⟨m, z, rl, h⟩ => ?_⟩
  refine Call_ (ld_blt I hg (M "len" (by decide)) PySem.boot_len ?_)
  refine PyProof.Rows.callWith_builtin1 (PyProof.Rows.args_cons ?_ rfl) rfl rfl
  refine Call_ (ld_blt I hg2 (M "set" (by decide)) PyProof.Rows.boot_set ?_)
  have hA : tE Γ B W f σ H fun v H1 => ∃ (l : Addr) (xs : List Str), v = .ref l ∧ H1 l = some (.lst (xs.map V.str)) ∧ xs.length < 1000 ∧ Q (.int (dis xs).length) H1 := by
    refine bnd rl h fun z1 d m1 x H1 e1 r1 p1 h1 => ?_
    cases d with
    | lst ds =>
      obtain ⟨pa, vs, rfl, k1, k2⟩ := Rep.lst.mp p1
      have h1 : Po Γ B W (rpE Γ) σ z1 (ofO ((txtsD ds).bind fun xs => if xs.length < 1000 then some (D.int (dis xs).length) else none) m1) Q := h1
      cases et : txtsD ds with
      | none => rw [et] at h1; exact h1.elim
      | some xs =>
        rw [et] at h1
        have h1 : Po Γ B W (rpE Γ) σ z1 (ofO (if xs.length < 1000 then some (D.int (dis xs).length) else none) m1) Q := h1
        split at h1
        · rename_i hlt
          have ev := txts_rep et k2
          subst ev
          exact ⟨pa, xs, rfl, r1.rf.sub _ _ k1, hlt, h1 z1 _ H1 (Ext.refl _) r1 (Rep.int.mpr rfl)⟩
        · exact h1.elim
    | _ => exact h1.elim
  refine PyProof.Rows.callWith_type1 (PyProof.Rows.args_cons (thn (ha.run pins s σ H _ I hA) fun v s1 ⟨x, H1, I1, r1, l, xs, ex, hl, lt, q1⟩ => PyProof.Rows.args_nil ?_) na) na rfl
  subst ex
  cases r1
  obtain ⟨its, r, pl, hz⟩ := I1.list (SqL.of (K := X.K) hl)
  have hlt2 : (dis xs).length ≤ xs.length := by
    have q := dis_le xs []
    rw [List.length_nil, Nat.zero_add] at q
    exact q
  refine call_setX (I1.ok.hd hc) pl.isList (xs := xs) (by simpa using strs_of r) (by unfold scanBound; omega) fun h' tk S3 k3 => PyProof.Rows.args_nil ?_
  obtain ⟨o, es, ep, t, ho, hex, hd, _, _, _, hf, hn⟩ := S3
  have I2 : Inv X pins σ H1 { s1 with heap := h', toks := tk } := I1.kept fun b o e => k3 b o (Heap.lt_size e) e
  exact call_len_set ho hex hd hf (by rw [hn]; omega) ⟨.int (dis xs).length, H1, I2.tok _, ⟨_, by rw [hn]⟩, q1⟩
end
end Z

set_option Elab.async false
set_option linter.all false
set_option maxRecDepth 100000
set_option maxHeartbeats 4000000
/-! Z33: a, *b = list; fields, properties, methods of objects with slots -/
namespace Z
open PySem PySem.Spec PyProof.Rows L2 RZ
section
variable {prog : Program} {w : World} {A : Around} {E : Value → Shared → Prop} {s : Shared}
theorem unpS {l : Addr} {items : Array Value} {Q : List Value → Shared → Prop} (hl : s.heap.IsList l items) (hh : A.handled = none) (h1 : 1 ≤ items.size) (hz : items.size ≤ 16384)
    (h : ∀ (h' : Heap) (tk : Nat), (∀ b o, s.heap.get? b = some o → h'.get? b = some o) → Q (items.toList.take 1 ++ [.ref h'.objs.size]) { s with heap := h'.push { cls := .type "list", data := .seq (items.toList.drop 1).toArray }, toks := tk }) :
    wpAny (model prog w) A (unpackItems (.ref l) 2 (some 1)) Q E s := by
  have lt : l < s.heap.objs.size := by obtain ⟨o, ho, _⟩ := hl; exact Heap.lt_size ho
  unfold unpackItems
  refine wpAny_bind (m := notIterableAtAll (.ref l)) ?_
  unfold notIterableAtAll
  refine wpAny_bind (wpAny_specialOf hl.typeIs slot_list_iter.lookup (wpAny_pure ?_))
  simp only [Bool.false_eq_true, if_false]
  refine wpAny_bind (wpAny_holding (wpAny_pyIter_list hl ?_))
  refine wpAny_bind (wpAny_holding (PySem.W.kun_draw (Nat.ne_of_lt lt) 1 0 _ _ ⟨_, Heap.get?_push_size _ rfl, rfl, rfl⟩ (hl.push _) (by omega) fun ha it sb => ?_))
  have la : ha.IsList l items := (hl.push _).extBut sb.extBut (Nat.ne_of_lt lt)
  rw [Nat.zero_add] at it
  obtain ⟨oi, hoi, it2⟩ := id it
  obtain ⟨ol, hol, _⟩ := id la
  rw [List.drop_zero]
  have len : (items.toList.take 1).length = 1 := by rw [List.length_take, Array.length_toList]; omega
  rw [if_neg (show ¬ ((items.toList.take 1).length < 1) by rw [len]; omega)]
  refine wpAny_bind (wpAny_holding (PySem.W.kun_collect (s := { s with heap := ha }) (T := "list_iterator") (.inr (.inr (.inl rfl))) (Walks.list (A := A.in1) hh s.heap.objs.size l (Nat.ne_of_lt lt) items) (fun j u st => st.1.typeIs) (k := 1) h1 ⟨it, la⟩ (Heap.lt_size hoi) (Heap.lt_size hol) (fun hb tk kp => ?_) (by rw [sizeLine_eq]; omega)))
  have dl : (items.toList.drop 1).length = items.size - 1 := by rw [List.length_drop, Array.length_toList]
  show wpAny _ _ (if (items.toList.drop 1).length < 2 - 1 - 1 then _ else _) _ _ _
  rw [if_neg (by omega)]
  show wpAny _ _ (newList ((items.toList.drop 1).take ((items.toList.drop 1).length - (2 - 1 - 1))) >>= fun d => pure (items.toList.take 1 ++ [d] ++ (items.toList.drop 1).drop ((items.toList.drop 1).length - (2 - 1 - 1)))) _ _ _
  rw [show (items.toList.drop 1).length - (2 - 1 - 1) = (items.toList.drop 1).length by omega, List.take_length, List.drop_length, ]
  simp only [List.append_nil]
  have keep : ∀ b o, s.heap.get? b = some o → hb.get? b = some o := fun b o e => kp b o (Nat.ne_of_lt (Heap.lt_size e)) (sb.extBut b o (Nat.ne_of_lt (Heap.lt_size e)) (Heap.get?_push_of_some _ e))
  exact wpAny_bind (wpAny_newList (wpAny_pure (h hb tk keep)) (by rw [dl, sizeLine_eq]; omega))
end
section
variable {Γ : Gm} {B : Bs} {W : WX} {X : Cx} {e : Expr} {f : Den} {pos : Pos}
/-- a, *b -/
def gstar (ts : Tgs) : Tg := fun d m => match d with
  | .lst (d :: ds) => if ds.length < 10000 then ts [d, .lst ds] m else none
  | _ => none
theorem z_gstar {es : List Expr} {kk : Nat} {own : List Nat} {ts : Tgs} (hc : X.calm = true) (h : PGs X es (tGs Γ B own ts)) (hn : (assignEach es X.env).length = 2) (hst : (assignEach es X.env).findIdx? (·.1) = some 1) : PG X (.Tuple es kk pos) (tG Γ B own (gstar ts)) := by
  refine ⟨fun pins s σ H v u Q I r ⟨m, z, d, m', rl, rp, hg, q⟩ => ?_⟩
  unfold gstar at hg
  split at hg
  · rename_i d ds
    split at hg
    · rename_i hlt
      obtain ⟨a, vs, rfl, k1, k2⟩ := Rep.lst.mp rp
      obtain rfl : u = Value.ref a := r
      have k3 := rl.rf.sub _ _ k1
      obtain ⟨its, rv, pl, hz⟩ := I.list (SqL.of (K := X.K) k3)
      have len : its.length = ds.length + 1 := by rw [← rv.length, ← k2.length, List.length_cons]
      simp only [RepL] at k2
      obtain ⟨v0, ws, rfl, k4, k5⟩ := k2
      cases rv with
      | cons r0 rw_ =>
        rename_i u0 us
        rw [assign_Tuple]
        refine wpAny_bind (wpAny_standAt ?_)
        unfold unpack
        rw [hn, hst]
        refine wpAny_bind (wpAny_holding (unpS pl.isList (I.ok.hd hc) (by simp) (by simp at len ⊢; omega) fun h' tk kp => ?_))
        have I1 := I.kept (t' := tk) kp
        have fr : H h'.objs.size = none := I1.hok.fresh (Nat.le_refl _)
        have I2 := I1.laid (a := h'.objs.size) (o := .lst ws) (h' := h'.push { cls := .type "list", data := .seq us.toArray }) (t' := tk) (fun b o e => Heap.get?_push_of_some _ e) (Nat.le_refl _) ⟨by rw [← k5.length]; exact Nat.le_trans (Nat.le_of_lt hlt) (by decide), us, 0, rw_, Heap.get?_push_size _ rfl⟩
        obtain ⟨x3, r3, q3⟩ := rl.newLst fr k5
        have e1 : ([u0] ++ [Value.ref h'.objs.size]) = [u0, .ref h'.objs.size] := rfl
        show wpAny _ _ (assignInOrder _ ((u0 :: us).toArray.toList.take 1 ++ [Value.ref h'.objs.size])) _ _ { s with heap := h'.push { cls := .type "list", data := .seq (((u0 :: us).toArray.toList.drop 1).toArray) }, toks := tk }
        exact h.run pins _ σ _ [v0, .ref h'.objs.size] [u0, .ref h'.objs.size] Q I2 (.cons r0 (.cons rfl .nil)) ⟨m, _, [d, .lst ds], m', r3, .cons (Rep.mono x3 d k4) (.cons q3 .nil), hg, fun z' σ' H' x' => q z' σ' H' (x3.trans x')⟩
    · cases hg
  · cases hg
theorem gstarT {es : List Expr} {kk : Nat} {own : List Nat} {ts : Tgs} (h : PGs X es (tGs Γ B own ts)) (hc : X.calm = true := by rfl) (hn : (assignEach es X.env).length = 2 := by rfl) (hst : (assignEach es X.env).findIdx? (·.1) = some 1 := by rfl) : PG X (.Tuple es kk pos) (tG Γ B own (gstar ts)) := z_gstar hc h hn hst
theorem gsconsS {p : Pos} {es : List Expr} {own owns : List Nat} {t : Tg} {ts : Tgs} (h1 : PG X e (tG Γ B own t)) (h2 : PGs X es (tGs Γ B owns ts)) (hs : (assignEach (.Starred e p :: es) X.env).map (·.2) = (assignEach (e :: es) X.env).map (·.2) := by rfl) (hs2 : (assignEach (e :: es) X.env).map (·.2) = assign e X.env :: (assignEach es X.env).map (·.2) := by rfl) : PGs X (.Starred e p :: es) (tGs Γ B (own ++ owns) (gcons t ts)) := by
  have k := gscons h1 h2 hs2
  exact ⟨fun pins s σ H vs us Q I r w => by rw [hs]; exact k.run pins s σ H vs us Q I r w⟩
/-! ### fields -/
structure OwnC (Γ : Gm) (c : Nat) : Prop where
  no : (Γ.own c).2 = none
  cls : SlX.SCls Γ.K (Γ.own c).1
theorem ins_slt {c : Nat} {z : Fz} {m : M} {σ : L2.St} {H : Hp} {ds : List D} {v : V} (o : OwnC Γ c) (r : Rl Γ B z m σ H) (h : Rep Γ z (.ins c ds) v) : ∃ a dx vs, v = .ref a ∧ SlX.Slt H a (Γ.own c).1 dx (vs.map some) ∧ RepL Γ z ds vs := by
  simp only [Rep] at h
  obtain ⟨a, dx, vs, rfl, h2, h3⟩ := h
  unfold InsG at h2
  rw [o.no] at h2
  exact ⟨a, dx, vs, rfl, .inr ⟨r.rf.sub _ _ h2.1, r.rf.sub _ _ h2.2⟩, h3⟩
def zfld (c i : Nat) (f : Den) : Den := fun m => (f m).bind fun d m1 => match d with
  | .ins k ds => if k = c then ofO ds[i]? m1 else .bad
  | _ => .bad
structure Fld (Γ : Gm) (c : Nat) (n : Str) (i : Nat) : Prop where
  o : OwnC Γ c
  ex : ∃ p, SlX.Slot1 Γ.K (Γ.own c).1 n p i
theorem qfld {c i : Nat} {n : Str} (F : Fld Γ c n i) (ha : PE X e (tE Γ B W f)) (hK : X.K = Γ.K := by rfl) (hb : attributeBase e n X.env (eval e X.env) = eval e X.env := by rfl) : PE X (.Attribute e n pos) (tE Γ B W (zfld c i f)) := by
  refine PE.imp (SlX.pe_sl ha hb) fun σ H Q ⟨m, z, rl, h⟩ => ?_
  refine bnd rl h fun z1 d m1 x H1 e1 r1 p1 h1 => ?_
  cases d with
  | ins k ds =>
    by_cases hk : k = c
    · subst hk
      have h1 : Po Γ B W (rpE Γ) σ z1 (if k = k then ofO ds[i]? m1 else .bad) Q := h1
      rw [if_pos rfl] at h1
      obtain ⟨a, dx, vs, rfl, hs, hr⟩ := ins_slt F.o r1 p1
      obtain ⟨p, hp⟩ := F.ex
      cases e0 : ds[i]? with
      | none => rw [e0] at h1; exact h1.elim
      | some d =>
        rw [e0] at h1
        obtain ⟨v, h3, h4⟩ := hr.get e0
        rw [hK]
        exact ⟨a, _, dx, p, vs.map some, i, v, rfl, hs, F.o.cls, hp, by rw [List.getElem?_map, h3]; rfl, h1 z1 v H1 (Ext.refl _) r1 h4⟩
    · have h1 : Po Γ B W (rpE Γ) σ z1 (if k = c then ofO ds[i]? m1 else .bad) Q := h1
      rw [if_neg hk] at h1
      exact h1.elim
  | _ => exact h1.elim
/-! ### properties -/
structure Prp (Γ : Gm) (P : Program) (w : World) (mg : Str → Option Value) (base : Heap) (c : Nat) (n : Str) (k : Nat) (φ : Fn) : Prop where
  o : OwnC Γ c
  ex : ∃ p g rest fd ps, PySem.W.findIn Γ.K (.ref (Γ.own c).1) n = some (some (.ref p)) ∧ PySem.W.specialIn Γ.K (.ref p) "__get__" = some (some (.builtin "property.__get__")) ∧ PySem.W.takesIn Γ.K (.ref p) = some true ∧ PySem.W.recIn Γ.K p "property" = some (.ref g :: rest) ∧ FnG P w Γ.K mg base k g fd ps (spZ Γ 1 φ) ∧ Binds Γ.K fd ps []
def quiet (r : RF) : RF := match r with
  | .ok d S => .ok d S
  | _ => .bad
def zprop (c : Nat) (φ : Fn) (f : Den) : Den := fun m => (f m).bind fun d m1 => match d with
  | .ins k ds => if k = c then backR (quiet (φ [.ins k ds] m1.S)) m1 else .bad
  | _ => .bad
theorem qprop {c k k' : Nat} {n : Str} {φ : Fn} (P : Prp Γ X.prog X.w X.mg X.base c n k φ) (hr : Room k' X.A) (hk : k + 1 ≤ k') (hgd : X.A.guards = some []) (ha : PE X e (tE Γ B W f)) (hK : X.K = Γ.K := by rfl) (hb : attributeBase e n X.env (eval e X.env) = eval e X.env := by rfl) :
    PE X (.Attribute e n pos) (tE Γ B W (zprop c φ f)) := by
  obtain ⟨o, p, g, rest, fd, ps, k1, k2, k3, k4, F, bd⟩ := P
  rw [← hK] at k1 k2 k3 k4 F bd
  refine ⟨fun pins s σ H Q I ⟨m, z, rl, h⟩ => ?_⟩
  have hA : tE Γ B W f σ H fun v H1 => ∃ a dx vs, v = .ref a ∧ SlX.Slt H1 a (Γ.own c).1 dx vs ∧ spZ Γ 1 φ [.ref a] H1 Q (fun _ _ _ => False) := by
    refine bnd rl h fun z1 d m1 x H1 e1 r1 p1 h1 => ?_
    cases d with
    | ins j ds =>
      by_cases hj : j = c
      · subst hj
        have h1 : Po Γ B W (rpE Γ) σ z1 (if j = j then backR (quiet (φ [.ins j ds] m1.S)) m1 else .bad) Q := h1
        rw [if_pos rfl] at h1
        obtain ⟨a, dx, vs, rfl, hs, _⟩ := ins_slt o r1 p1
        refine ⟨a, dx, _, rfl, hs, rfl, z1, [.ins j ds], m1.S, r1.rf, .cons p1 .nil, ?_⟩
        cases e0 : φ [.ins j ds] m1.S with
        | bad => rw [e0] at h1; exact h1
        | exc c d S => rw [e0] at h1; exact h1.elim
        | ok d S =>
          rw [e0] at h1
          exact fun z' v H' st f r => h1 z' v H' st.ext (r1.call f st) r
      · have h1 : Po Γ B W (rpE Γ) σ z1 (if j = c then backR (quiet (φ [.ins j ds] m1.S)) m1 else .bad) Q := h1
        rw [if_neg hj] at h1
        exact h1.elim
    | _ => exact h1.elim
  refine attr_of hb (thn (ha.run pins s σ H _ I hA) fun u s1 ⟨x, H1, I1, rx, a, dx, vs, ex, hs, q⟩ => ?_)
  subst ex
  obtain rfl : u = Value.ref a := rx
  obtain ⟨sl, od, _, J, _⟩ := SlX.slt_inst I1 hs
  have cs := o.cls
  rw [← hK] at cs
  have I2 : Inv X pins σ H1 { s1 with toks := s1.toks + 1 } := I1.tok (s1.toks + 1)
  have hl : ([Value.ref a] ++ []).length = ps.length := by
    have q := F.len _ _ _ _ q
    simpa using q
  have b0 := bd { s1 with toks := s1.toks + 1 } [.ref a] I2.kIn hl
  rw [List.append_nil] at b0
  refine PySem.W.get_bind I1.kIn J (PySem.W.plainGet_of (cs.get n)).1 (PySem.W.findObj_data cs.ic k1 k2 k3) (PySem.W.plainGet_of (cs.get n)).2 (wpAny_call (PySem.W.prop_get (s := { s1 with toks := s1.toks + 1 }) I1.kIn k4 ?_))
  refine codeAny_mono (F.run X.A.in1 X.stack { s1 with toks := s1.toks + 1 } H1 ⟨[.ref a], []⟩ [.ref a] [.ref a] Q (fun _ _ _ => False) hgd (hr.mono hk).in1 I2.env0.in1 b0 (.cons rfl .nil) q) fun r s' hq => ?_
  match r, hq with
  | .error e, hq =>
    obtain ⟨_, _, _, _, _, _, _, _, _, _, _, _, hf⟩ := hq
    exact hf.elim
  | .ok (.ret u), hq =>
    obtain ⟨v, H', I3, rv, q⟩ := I2.after hq
    exact wpAny_of_eq (PySem.W.handedOut_of (handed_of rv)) ⟨v, H', I3, rv, q⟩
/-! ### methods -/
structure Mth (Γ : Gm) (P : Program) (w : World) (mg : Str → Option Value) (base : Heap) (c : Nat) (n : Str) (k j : Nat) (φ : Fn) : Prop where
  o : OwnC Γ c
  ex : ∃ g fd ps, Meth Γ.K (Γ.own c).1 n g ∧ FnG P w Γ.K mg base k g fd ps (spZ Γ (j + 1) φ) ∧ Binds Γ.K fd ps []
def zmeth (c : Nat) (φ : Fn) (f : Den) (fs : DenL) : Den := fun m => (f m).bind fun d m1 => match d with
  | .ins k ds => if k = c then (fs m1).bind fun es m2 => backR (φ (.ins k ds :: es) m2.S) m2 else .bad
  | _ => .bad
theorem qmeth {c k k' j : Nat} {n : Str} {φ : Fn} {apos : Pos} {a : Expr} {es : List Expr} {fs : DenL} {pl : Sem Bool} (P : Mth Γ X.prog X.w X.mg X.base c n k j φ) (hr : Room k' X.A) (hk : k ≤ k') (hgd : X.A.guards = some []) (tk : Takes X W) (ha : PE X e (tE Γ B W f)) (hs : PAL X Γ B W (a :: es) fs) (hn : (a :: es).length = j := by rfl) (hK : X.K = Γ.K := by rfl)
    (hst : starEach (a :: es) X.env = (false, eval a X.env) :: starEach es X.env := by rfl) (hpl : (backTo pos (starEach es X.env)).any (·.1) = false := by rfl)
    (ht : eval (.Call (.Attribute e n apos) (a :: es) [] pos) X.env = (do
      let ov ← eval e X.env
      standAt apos.atName
      let (f, first) ← holding [ov] (getMethod ov n pl)
      callWith pos f first (backTo pos (starEach (a :: es) X.env)) (backToKw pos (keywordEach [] X.env))) := by rfl) :
    PE X (.Call (.Attribute e n apos) (a :: es) [] pos) (tE Γ B W (zmeth c φ f fs)) := by
  obtain ⟨o, g, fd, ps, mt, F, bd⟩ := P
  rw [← hK] at mt F bd
  have cs := o.cls
  rw [← hK] at cs
  refine ⟨fun pins s σ H Q I ⟨m, z, rl, h⟩ => ?_⟩
  have hA : tE Γ B W f σ H fun v H1 => ∃ x dx vs, v = .ref x ∧ SlX.Slt H1 x (Γ.own c).1 dx vs ∧ tA Γ B W fs σ H1 fun ws H2 => spZ Γ (j + 1) φ (.ref x :: ws) H2 Q (WE W σ) := by
    refine bnd rl h fun z1 d m1 v H1 e1 r1 p1 h1 => ?_
    cases d with
    | ins i ds =>
      by_cases hj : i = c
      · subst hj
        have h1 : Po Γ B W (rpE Γ) σ z1 (if i = i then (fs m1).bind fun es m2 => backR (φ (.ins i ds :: es) m2.S) m2 else .bad) Q := h1
        rw [if_pos rfl] at h1
        obtain ⟨x, dx, vs, rfl, hs2, _⟩ := ins_slt o r1 p1
        refine ⟨x, dx, _, rfl, hs2, m1, z1, r1, ?_⟩
        cases e0 : fs m1 with
        | bad => rw [e0] at h1; exact h1
        | exc c d m2 => rw [e0] at h1; exact h1
        | ok ds2 m2 =>
          rw [e0] at h1
          intro z2 us H2 x2 r2 p2
          have q := RepL.cons (Rep.mono x2 _ p1) p2
          exact call_conv r2 q (by rw [← q.length, List.length_cons, hs.len m1 ds2 m2 e0, hn]) (Po.mono h1 x2)
      · have h1 : Po Γ B W (rpE Γ) σ z1 (if i = c then (fs m1).bind fun es m2 => backR (φ (.ins i ds :: es) m2.S) m2 else .bad) Q := h1
        rw [if_neg hj] at h1
        exact h1.elim
    | _ => exact h1.elim
  refine PySem.W.methodCall_KW (pl := pl) (thn (ha.run pins s σ H _ I hA) fun u s1 ⟨v, H1, I1, rx, x, dx, vs, ex, hsl, q⟩ => ?_) ht
  subst ex
  obtain rfl : u = Value.ref x := rx
  refine SlX.getmethsl_ok I1 hsl cs mt ?_
  refine PySem.W.callWith_K (first := [.ref x]) (h₀ := X.base) I.ok.mod.kin mt.kp (thn (hs.pa.run pos pins s1 σ H1 _ I1 q) fun us s2 ⟨ws, H2, I2, r, q2⟩ => ⟨I2.kIn, ?_⟩) hst hpl
  have k0 := run_fnG (us := .ref x :: us) (vs := .ref x :: ws) (dvs := []) (ds := []) F hgd (hr.mono hk) bd .nil tk I2 (.cons rfl r) (by rw [List.append_nil]; exact q2)
  exact k0
end
end Z

set_option Elab.async false
set_option linter.all false
set_option maxRecDepth 100000
set_option maxHeartbeats 4000000
/-! Z34: x in a list that is being built; the head's facts of own classes with slots -/
namespace Z
open PySem PySem.Spec PyProof.Rows L2 RZ
section
variable {Γ : Gm} {B : Bs} {W : WX} {X : Cx} {a : Expr} {f : Den} {pos : Pos}
def zinB (i : Nat) (f : Den) : Den := fun m => (f m).bind fun d m1 => match m1.e[i]? with
  | some (.box .l xs) => ofO (inX d (.lst xs)) m1
  | some (.val e) => ofO (inX d e) m1
  | _ => .bad
def zninB (i : Nat) (f : Den) : Den := fun m => (f m).bind fun d m1 => match m1.e[i]? with
  | some (.box .l xs) => ofO (ninL d (.lst xs)) m1
  | some (.val e) => ofO (ninL d e) m1
  | _ => .bad
theorem bld_in {n : Bool} {z : Fz} {m : M} {σ : L2.St} {H : Hp} {d : D} {x : V} {b : Bool} {Q : VK} {p : Addr} {xs : List D} {vs : List V} (rl : Rl Γ B z m σ H) (rd : Rep Γ z d x) (k2 : H p = some (.lst vs)) (k3 : RepL Γ z xs vs) (h : inB d (.lst xs) = some b) (q : Q (.bl (xor n b)) H) : rInX Γ.K n x (.ref p) H Q := by
  have h : (if (okD d && okD (.lst xs)) = true then some (xs.any fun y => eqb y d) else none) = some b := h
  split at h
  · rename_i ok
    simp only [Bool.and_eq_true] at ok
    obtain ⟨p1, e1, s1⟩ := okD_of ok.1
    obtain ⟨p2, e2, s2⟩ := okD_of ok.2
    simp only [toP, Option.map_eq_some_iff] at e2
    obtain ⟨ps, e3, rfl⟩ := e2
    refine ⟨p1, ps, Rep.dp rl.rf.sub _ _ _ rd e1, .inl (.lst (SqL.of k2) (RepL.dp rl.rf.sub xs ps vs k3 e3)), s1, s2, ?_⟩
    rw [any_eqv xs ps d p1 e3 e1, Option.some.inj h]
    exact q
  · cases h
theorem inB_conv {i : Nat} {σ : L2.St} {H : Hp} {Q : VK} (hK : X.K = Γ.K) (hz : tE Γ B W (zinB i f) σ H Q) : tOp (fun x y H Q => rInX X.K false x y H Q ∨ (∃ i j, x = .str i ∧ y = .str j ∧ Q (.bl (!(Builtin.Str.occurrences j i 0 j.length 1).isEmpty)) H)) (tE Γ B W f) (tVar i) σ H Q := by
  obtain ⟨m, z, rl, h⟩ := hz
  refine bnd rl h fun z1 d m1 x H1 e1 r1 p1 h1 => ?_
  have h1 : Po Γ B W (rpE Γ) σ z1 (match m1.e[i]? with
    | some (.box .l xs) => ofO (inX d (.lst xs)) m1
    | some (.val e) => ofO (inX d e) m1
    | _ => .bad) Q := h1
  split at h1
  · rename_i xs q
    obtain ⟨p, vs, k1, k2, k3⟩ := bld_at r1 q
    refine ⟨.ref p, k1, .inl ?_⟩
    cases e0 : inX d (.lst xs) with
    | none => rw [e0] at h1; exact h1.elim
    | some c =>
      rw [e0] at h1
      obtain ⟨b, e2, rfl⟩ := Option.map_eq_some_iff.mp e0
      rw [hK]
      exact bld_in (n := false) r1 p1 k2 k3 e2 (by rw [Bool.false_xor]; exact h1 z1 _ H1 (Ext.refl _) r1 (Rep.bl.mpr rfl))
  · rename_i e q
    have hl : i < σ.length := by rw [← r1.len]; exact (List.getElem?_eq_some_iff.mp q).1
    obtain ⟨v, ev, rp⟩ := r1.slot i _ _ q (List.getElem?_eq_getElem hl)
    refine ⟨v, by rw [List.getElem?_eq_getElem hl, ev], ?_⟩
    cases e0 : inX d e with
    | none => rw [e0] at h1; exact h1.elim
    | some c =>
      rw [e0] at h1
      rw [hK]
      exact oz_inX z1 m1 σ H1 d e c x v Q r1 p1 rp e0 h1
  · exact h1.elim
theorem qinB {k : Nat} (i : Nat) {y : Str} {py : Pos} (hr : Room k X.A) (ha : PE X a (tE Γ B W f)) (hK : X.K = Γ.K := by rfl) (hN : X.N[i]? = some y := by rfl) (hv : visB X.env.scope y = true := by rfl) (hd : (y == ("__debug__" : Str)) = false := by decide) (hcd : (y == ("__classdict__" : Str)) = false := by decide) (hn : behindInMarks .In (.Name y py) = false := by rfl) :
    PE X (.Compare a [.In] [.Name y py] pos) (tE Γ B W (zinB i f)) := PE.imp (pe_cmpR (OpR.or (op_inX (by have := hr.un; omega)) op_in_str) ha (pe_var hN (visB_ok hv) hd hcd) hn) fun σ H Q hz => inB_conv hK hz
theorem tinB {k : Nat} (i : Nat) {y : Str} {py : Pos} (hr : Room k X.A) (ha : PE X a (tE Γ B W f)) (hK : X.K = Γ.K := by rfl) (hN : X.N[i]? = some y := by rfl) (hv : visB X.env.scope y = true := by rfl) (hd : (y == ("__debug__" : Str)) = false := by decide) (hcd : (y == ("__classdict__" : Str)) = false := by decide) (hn : behindInMarks .In (.Name y py) = false := by rfl) :
    PT X (.Compare a [.In] [.Name y py] pos) (tT Γ B W (toB (zinB i f))) := PT.imp (pt_cmpR (OpR.or (op_inX (by have := hr.un; omega)) op_in_str) ha (pe_var hN (visB_ok hv) hd hcd) hn) fun σ H Q hz => inB_conv hK (toB_conv hz)
theorem ninB_conv {i : Nat} {σ : L2.St} {H : Hp} {Q : VK} (hK : X.K = Γ.K) (hz : tE Γ B W (zninB i f) σ H Q) : tOp (rInX X.K true) (tE Γ B W f) (tVar i) σ H Q := by
  obtain ⟨m, z, rl, h⟩ := hz
  refine bnd rl h fun z1 d m1 x H1 e1 r1 p1 h1 => ?_
  have h1 : Po Γ B W (rpE Γ) σ z1 (match m1.e[i]? with
    | some (.box .l xs) => ofO (ninL d (.lst xs)) m1
    | some (.val e) => ofO (ninL d e) m1
    | _ => .bad) Q := h1
  split at h1
  · rename_i xs q
    obtain ⟨p, vs, k1, k2, k3⟩ := bld_at r1 q
    refine ⟨.ref p, k1, ?_⟩
    cases e0 : ninL d (.lst xs) with
    | none => rw [e0] at h1; exact h1.elim
    | some c =>
      rw [e0] at h1
      have e0 : ninX d (.lst xs) = some c := e0
      obtain ⟨b, e2, rfl⟩ := Option.map_eq_some_iff.mp e0
      rw [hK]
      exact bld_in (n := true) r1 p1 k2 k3 e2 (by rw [Bool.true_xor]; exact h1 z1 _ H1 (Ext.refl _) r1 (Rep.bl.mpr rfl))
  · rename_i e q
    have hl : i < σ.length := by rw [← r1.len]; exact (List.getElem?_eq_some_iff.mp q).1
    obtain ⟨v, ev, rp⟩ := r1.slot i _ _ q (List.getElem?_eq_getElem hl)
    refine ⟨v, by rw [List.getElem?_eq_getElem hl, ev], ?_⟩
    cases e0 : ninL d e with
    | none => rw [e0] at h1; exact h1.elim
    | some c =>
      rw [e0] at h1
      rw [hK]
      exact oz_ninX z1 m1 σ H1 d e c x v Q r1 p1 rp e0 h1
  · exact h1.elim
theorem qninB {k : Nat} (i : Nat) {y : Str} {py : Pos} (hr : Room k X.A) (ha : PE X a (tE Γ B W f)) (hK : X.K = Γ.K := by rfl) (hN : X.N[i]? = some y := by rfl) (hv : visB X.env.scope y = true := by rfl) (hd : (y == ("__debug__" : Str)) = false := by decide) (hcd : (y == ("__classdict__" : Str)) = false := by decide) (hn : behindInMarks .NotIn (.Name y py) = false := by rfl) :
    PE X (.Compare a [.NotIn] [.Name y py] pos) (tE Γ B W (zninB i f)) := PE.imp (pe_cmpR (op_ninX (by have := hr.un; omega)) ha (pe_var hN (visB_ok hv) hd hcd) hn) fun σ H Q hz => ninB_conv hK hz
theorem tninB {k : Nat} (i : Nat) {y : Str} {py : Pos} (hr : Room k X.A) (ha : PE X a (tE Γ B W f)) (hK : X.K = Γ.K := by rfl) (hN : X.N[i]? = some y := by rfl) (hv : visB X.env.scope y = true := by rfl) (hd : (y == ("__debug__" : Str)) = false := by decide) (hcd : (y == ("__classdict__" : Str)) = false := by decide) (hn : behindInMarks .NotIn (.Name y py) = false := by rfl) :
    PT X (.Compare a [.NotIn] [.Name y py] pos) (tT Γ B W (toB (zninB i f))) := PT.imp (pt_cmpR (op_ninX (by have := hr.un; omega)) ha (pe_var hN (visB_ok hv) hd hcd) hn) fun σ H Q hz => ninB_conv hK (toB_conv hz)
end
/-! ### own classes: the head -/
abbrev gC (K : PySem.W.Frag) (x : Str) : Addr := He.ga K x
def ownOf (K : PySem.W.Frag) (cl : List (Str × Option (List Str))) (c : Nat) : Addr × Option (List Str) := match cl[c]? with
  | some p => (gC K p.1, p.2)
  | none => (0, some [])
/-- the getter of a property -/
def pAd (K : PySem.W.Frag) (x n : Str) : Addr := match PySem.W.recIn K (He.ma K (gC K x) n) "property" with
  | some (.ref g :: _) => g
  | _ => 0
structure OwnD where
  name : Str
  slots : List (Str × Nat) := []
  props : List Str := []
  meths : List Str := []
def slotB (K : PySem.W.Frag) (C : Addr) (p : Str × Nat) : Bool := He.eqO (PySem.W.findIn K (.ref C) p.1) (some (some (.ref (He.ma K C p.1)))) && (He.eqO (PySem.W.specialIn K (.ref (He.ma K C p.1)) "__get__") (some (some (.builtin "member_descriptor.__get__"))) && (decide (PySem.W.takesIn K (.ref (He.ma K C p.1)) = some true)
  && (decide (PySem.W.typeIn K (.ref (He.ma K C p.1)) = some (.type "member_descriptor")) && (decide (PySem.W.slotIn K (He.ma K C p.1) C = some p.2) && decide (p.2 < 1000)))))
def propB (K : PySem.W.Frag) (x n : Str) : Bool := He.eqO (PySem.W.findIn K (.ref (gC K x)) n) (some (some (.ref (He.ma K (gC K x) n)))) && (He.eqO (PySem.W.specialIn K (.ref (He.ma K (gC K x) n)) "__get__") (some (some (.builtin "property.__get__"))) && (decide (PySem.W.takesIn K (.ref (He.ma K (gC K x) n)) = some true)
  && (match PySem.W.recIn K (He.ma K (gC K x) n) "property" with
    | some (.ref _ :: _) => true
    | _ => false)))
def methB (K : PySem.W.Frag) (C : Addr) (n : Str) : Bool := He.eqO (PySem.W.findIn K (.ref C) n) (some (some (.ref (He.ma K C n)))) && (PySem.W.isFn K (.ref (He.ma K C n)) && PySem.W.keepIn K (.ref (He.ma K C n)))
def OwnD.ok (K : PySem.W.Frag) (d : OwnD) : Bool := He.eqO (PySem.W.nsIn K mainGlobals d.name) (some (some (.ref (gC K d.name)))) && (PySem.W.makesIn K (gC K d.name) && (PySem.W.keepIn K (.ref (gC K d.name)) && (PySem.W.plainGet K (gC K d.name) Str.empty && (PySem.W.isClsIn K (gC K d.name) && (PySem.W.plainOver K (gC K d.name)
  && (He.eqO (PySem.W.findIn K (.ref (gC K d.name)) "__setattr__") (some (some (.builtin "object.__setattr__"))) && (d.slots.all (slotB K (gC K d.name)) && (d.props.all (propB K d.name) && d.meths.all (methB K (gC K d.name))))))))))
structure OwnH (K : PySem.W.Frag) (d : OwnD) : Prop where
  at_ : PySem.W.nsIn K mainGlobals d.name = some (some (.ref (gC K d.name)))
  makes : PySem.W.makesIn K (gC K d.name) = true
  kp : PySem.W.keepIn K (.ref (gC K d.name)) = true
  cls : SlX.SCls K (gC K d.name)
  slot : ∀ p ∈ d.slots, SlX.Slot1 K (gC K d.name) p.1 (He.ma K (gC K d.name) p.1) p.2
  prop : ∀ n ∈ d.props, PySem.W.findIn K (.ref (gC K d.name)) n = some (some (.ref (He.ma K (gC K d.name) n))) ∧ PySem.W.specialIn K (.ref (He.ma K (gC K d.name) n)) "__get__" = some (some (.builtin "property.__get__")) ∧ PySem.W.takesIn K (.ref (He.ma K (gC K d.name) n)) = some true ∧ ∃ rest, PySem.W.recIn K (He.ma K (gC K d.name) n) "property" = some (.ref (pAd K d.name n) :: rest)
  meth : ∀ n ∈ d.meths, Meth K (gC K d.name) n (He.ma K (gC K d.name) n)
theorem ownH_of {K : PySem.W.Frag} {d : OwnD} (h : d.ok K = true) : OwnH K d := by
  unfold OwnD.ok at h
  simp only [Bool.and_eq_true, List.all_eq_true] at h
  obtain ⟨h1, h2, h3, h4, h5, h6, h7, h8, h9, h10⟩ := h
  refine ⟨He.eqO_ok h1, h2, h3, ⟨h4, h5, h6, He.eqO_ok h7⟩, fun p hp => ?_, fun n hn => ?_, fun n hn => ?_⟩
  · have q := h8 p hp
    unfold slotB at q
    simp only [Bool.and_eq_true, decide_eq_true_eq] at q
    obtain ⟨q1, q2, q3, q4, q5, q6⟩ := q
    exact ⟨He.eqO_ok q1, He.eqO_ok q2, q3, q4, q5, q6⟩
  · have q := h9 n hn
    unfold propB at q
    simp only [Bool.and_eq_true, decide_eq_true_eq] at q
    obtain ⟨q1, q2, q3, q4⟩ := q
    refine ⟨He.eqO_ok q1, He.eqO_ok q2, q3, ?_⟩
    split at q4
    · rename_i g rest e
      refine ⟨rest, ?_⟩
      unfold pAd
      rw [e]
    · cases q4
  · have q := h10 n hn
    unfold methB at q
    simp only [Bool.and_eq_true] at q
    exact ⟨He.eqO_ok q.1, q.2.1, q.2.2⟩
/-! a def at an address of one's own -/
def fnWA (K : PySem.W.Frag) (a : Addr) : He.FnW := match K.lookup a with
  | some ⟨_, _, .func fd, _⟩ => some (fd.name, fd.qualname, fd.params, fd.body, fd.scope, fd.globals, fd.closure, fd.builtins)
  | _ => none
def okA (K : PySem.W.Frag) (a : Addr) (d : He.DefD) : Bool := PySem.W.keepIn K (.ref a) && (match K.lookup a with
  | some ⟨_, _, .func fd, _⟩ => PySem.W.codeIn K fd.code d.qual && (He.dflB K fd.defaults (d.dvs K) && He.kwdB K fd.kwdefaults (d.kws K))
  | _ => false)
theorem funD_at {K : PySem.W.Frag} {a : Addr} {d : He.DefD} (e : fnWA K a = d.val) (c : okA K a d = true) : ∃ fd, FunD K d.name d.qual d.params d.body d.scope (d.dvs K) (d.kws K) a fd := by
  obtain ⟨kp, c2⟩ := He.ba c
  unfold fnWA at e
  cases q : K.lookup a with
  | none =>
    rw [q] at c2
    cases c2
  | some o =>
    obtain ⟨oc, od, dt, osl⟩ := o
    rw [q] at c2 e
    cases dt with
    | func fd =>
      obtain ⟨n1, n2, n3, n4, n5, n6, n7, n8, n9, n10, n11, n12, n13, n14, n15⟩ := fd
      have e2 : (some (n1, n2, n3, n4, n5, n6, n7, n15) : He.FnW) = some (d.name, d.qual, d.params, .stmts d.body, d.scope, mainGlobals, [], builtinsNs) := e
      simp only [Option.some.injEq, Prod.mk.injEq] at e2
      obtain ⟨h1, h2, h3, h4, h5, h6, h7, h8⟩ := e2
      subst h1 h2 h3 h4 h5 h6 h7 h8
      have c3 : (PySem.W.codeIn K n13 d.qual && (He.dflB K n8 (d.dvs K) && He.kwdB K n9 (d.kws K))) = true := c2
      obtain ⟨k1, k2⟩ := He.ba c3
      obtain ⟨k3, k4⟩ := He.ba k2
      exact ⟨_, ⟨oc, od, n8, n9, n10, n11, n12, n13, n14, osl, rfl, q, k1, He.dflB_ok k3, He.kwdB_ok k4⟩, kp⟩
    | _ => cases c2
/-! the hook with getters -/
abbrev AlU : Type := AlY × List He.FnW
abbrev PrD : Type := (Str × Str) × He.DefD
def obsU (n : Nat) (fa : List He.Fa) (fn : List He.DefD) (pn : List PrD) (tf : List He.Defn) (ex : PySem.W.Frag → Bool) (g : Addr → Option Obj) : AlU :=
  (obsY n fa fn tf (fun K => ex K && pn.all fun p => okA K (pAd K p.1.1 p.1.2) p.2) g, pn.map fun p => fnWA (frY n g) (pAd (frY n g) p.1.1 p.1.2))
structure SaysU (fa : List He.Fa) (fn : List He.DefD) (pn : List PrD) (ini : IniW) (tf : List He.Defn) (ex : PySem.W.Frag → Bool) (h : Heap) (K : PySem.W.Frag) : Prop where
  y : SaysY fa fn ini tf ex h K
  p : ∀ p ∈ pn, fnWA K (pAd K p.1.1 p.1.2) = p.2.val ∧ okA K (pAd K p.1.1 p.1.2) p.2 = true
theorem saysU_of {n : Nat} {fa : List He.Fa} {fn : List He.DefD} {pn : List PrD} {ini : IniW} {tf : List He.Defn} {ex : PySem.W.Frag → Bool} {h : Heap} (e : obsU n fa fn pn tf ex h.get? = (((He.valD fn, ini), true), pn.map fun p => p.2.val)) : SaysU fa fn pn ini tf ex h (frY n h.get?) := by
  have e0 : obsY n fa fn tf (fun K => ex K && pn.all fun p => okA K (pAd K p.1.1 p.1.2) p.2) h.get? = ((He.valD fn, ini), true) := congrArg (fun z : AlU => z.1) e
  have e1 := saysY_of e0
  have e2 : (pn.map fun p => fnWA (frY n h.get?) (pAd (frY n h.get?) p.1.1 p.1.2)) = pn.map fun p => p.2.val := congrArg (fun z : AlU => z.2) e
  obtain ⟨m1, m2⟩ := He.ba e1.more
  refine ⟨⟨e1.d, e1.i, m1, e1.hd, e1.out, e1.empty⟩, fun p hp => ⟨?_, List.all_eq_true.mp m2 p hp⟩⟩
  obtain ⟨i, hi⟩ := List.mem_iff_getElem?.mp hp
  have e3 : (pn.map fun p => fnWA (frY n h.get?) (pAd (frY n h.get?) p.1.1 p.1.2))[i]? = (pn.map fun p => p.2.val)[i]? := by rw [e2]
  rw [List.getElem?_map, List.getElem?_map, hi] at e3
  exact Option.some.inj e3
def hookU (n : Nat) (fa : List He.Fa) (fn : List He.DefD) (pn : List PrD) (ini : IniW) (tf : List He.Defn) (ex : PySem.W.Frag → Bool) : PySem.W.Hook where
  α := AlU
  obs := fun s => obsU n fa fn pn tf ex s.heap.get?
  val := fun _ => (((He.valD fn, ini), true), pn.map fun p => p.2.val)
  says := fun _ h => ∃ K : PySem.W.Frag, K.In h ∧ SaysU fa fn pn ini tf ex h K
  of := fun _ _ e => ⟨_, He.frT_in, saysU_of e⟩
  keeps := fun _ _ _ ⟨K, hK, c⟩ k => ⟨K, PySem.W.Frag.In.keeps hK k, ⟨⟨c.y.d, c.y.i, c.y.more, c.y.hd, c.y.out, fun p hp => k _ _ (c.y.empty p hp)⟩, c.p⟩⟩
theorem obsU_eq {n : Nat} {fa : List He.Fa} {fn : List He.DefD} {pn : List PrD} {ini : IniW} {tf : List He.Defn} {ex : PySem.W.Frag → Bool} {g : Addr → Option Obj} {s : Shared} (h : ∀ a, g a = s.heap.get? a) : obsU n fa fn pn tf ex g = (hookU n fa fn pn ini tf ex).obs s := by
  have e : g = s.heap.get? := funext h
  rw [e] <;> rfl
/-- what is asked besides, with own classes -/
def exU (cs : List (Str × D)) (file : Str) (ec : List Str) (iso : List (Str × List Bool)) (isb : List (String × List Bool)) (tf : List He.Defn) (ow : List OwnD) (K : PySem.W.Frag) : Bool := exY cs file ec iso isb tf K && ow.all fun d => d.ok K
theorem moreU {cs : List (Str × D)} {file : Str} {ec : List Str} {iso : List (Str × List Bool)} {isb : List (String × List Bool)} {tf : List He.Defn} {ow : List OwnD} {K : PySem.W.Frag} (h : exU cs file ec iso isb tf ow K = true) : MoreY cs file ec iso isb tf K ∧ ∀ d ∈ ow, OwnH K d := by
  obtain ⟨h1, h2⟩ := He.ba h
  exact ⟨moreY h1, fun d hd => ownH_of (List.all_eq_true.mp h2 d hd)⟩
section
variable {Γ : Gm} {P : Program} {w : World} {mg : Str → Option Value} {base h : Heap} {d : OwnD} {c : Nat} {cl : List (Str × Option (List Str))}
theorem own_c (O : OwnH Γ.K d) (hc : Γ.own c = (gC Γ.K d.name, none)) : OwnC Γ c := ⟨by rw [hc], by rw [hc]; exact O.cls⟩
theorem fld_of {n : Str} {i : Nat} (O : OwnH Γ.K d) (hc : Γ.own c = (gC Γ.K d.name, none)) (hs : (n, i) ∈ d.slots) : Fld Γ c n i := ⟨own_c O hc, _, by rw [hc]; exact O.slot _ hs⟩
theorem prp_of {n : Str} {k : Nat} {φ : Fn} {fd : FuncData} {ps : List Str} (O : OwnH Γ.K d) (hc : Γ.own c = (gC Γ.K d.name, none)) (hn : n ∈ d.props) (F : FnG P w Γ.K mg base k (pAd Γ.K d.name n) fd ps (spZ Γ 1 φ)) (b : Binds Γ.K fd ps []) : Prp Γ P w mg base c n k φ := by
  obtain ⟨k1, k2, k3, rest, k4⟩ := O.prop n hn
  exact ⟨own_c O hc, _, _, rest, fd, ps, by rw [hc]; exact k1, k2, k3, k4, F, b⟩
theorem mth_of {n : Str} {k j : Nat} {φ : Fn} {fd : FuncData} {ps : List Str} (O : OwnH Γ.K d) (hc : Γ.own c = (gC Γ.K d.name, none)) (hn : n ∈ d.meths) (F : FnG P w Γ.K mg base k (He.ma Γ.K (gC Γ.K d.name) n) fd ps (spZ Γ (j + 1) φ)) (b : Binds Γ.K fd ps []) : Mth Γ P w mg base c n k j φ :=
  ⟨own_c O hc, _, fd, ps, by rw [hc]; exact O.meth n hn, F, b⟩
theorem mak_of {k n : Nat} {φ : Fn} {fd : FuncData} {ps : List Str} (O : OwnH Γ.K d) (hc : Γ.own c = (gC Γ.K d.name, none)) (X : Γ.K.In h) (G : h.Ns mainGlobals mg) (hi : ("__init__" : Str) ∈ d.meths) (F : FnG P w Γ.K mg base k (He.ma Γ.K (gC Γ.K d.name) "__init__") fd ps (spN Γ (Γ.own c).1 n φ)) (b : Binds Γ.K fd ps []) : Mak Γ P w mg base d.name k n φ :=
  have m := O.meth _ hi; have F : FnG P w Γ.K mg base k (He.ma Γ.K (gC Γ.K d.name) "__init__") fd ps (spN Γ (gC Γ.K d.name) n φ) := by rw [hc] at F; exact F
  ⟨gC Γ.K d.name, _, fd, ps, ⟨O.makes, m.at_, m.fn, O.kp⟩, F, PySem.W.mg_of X G O.at_, b⟩
end
end Z

set_option Elab.async false
set_option linter.all false
set_option maxRecDepth 100000
set_option maxHeartbeats 4000000
/-! Z25: what holds behind a denotation: rules, one for each construct -/
namespace Z
open PySem PySem.Spec PyProof.Rows L2 RZ
abbrev Sto := List (List D)
def Res (r : RF) (Q : D → Sto → Prop) (E : Nat → D → Sto → Prop) : Prop := match r with
  | .ok d S => Q d S
  | .exc c d S => E c d S
  | .bad => False
abbrev nE : Nat → D → Sto → Prop := fun _ _ _ => False
def RE {α : Type} (r : R α) (Q : α → M → Prop) (E : Nat → D → M → Prop) : Prop := match r with
  | .ok a m => Q a m
  | .exc c d m => E c d m
  | .bad => False
def RT (r : RS) (N : M → Prop) (T : D → M → Prop) (E : Nat → D → M → Prop) : Prop := match r with
  | .nx m => N m
  | .rt d m => T d m
  | .exc c d m => E c d m
  | _ => False
theorem Res.mono {r : RF} {Q Q' : D → Sto → Prop} {E E' : Nat → D → Sto → Prop} (h : Res r Q E) (hq : ∀ d S, Q d S → Q' d S) (he : ∀ c d S, E c d S → E' c d S) : Res r Q' E' := by
  cases r with
  | ok d S => exact hq d S h
  | exc c d S => exact he c d S h
  | bad => exact h
theorem Res.use {r : RF} {Q Q' : D → Sto → Prop} {E' : Nat → D → Sto → Prop} (h : Res r Q nE) (hq : ∀ d S, Q d S → Q' d S) : Res r Q' E' := h.mono hq fun _ _ _ h => h.elim
theorem Res.eq {r : RF} {d : D} {S : Sto} {Q : D → Sto → Prop} {E : Nat → D → Sto → Prop} (h : r = .ok d S) (q : Q d S) : Res r Q E := by rw [h]; exact q
theorem Res.exq {r : RF} {c : Nat} {d : D} {S : Sto} {Q : D → Sto → Prop} {E : Nat → D → Sto → Prop} (h : r = .exc c d S) (q : E c d S) : Res r Q E := by rw [h]; exact q
theorem Res.ex {r : RF} {Q : D → Sto → Prop} (h : Res r Q nE) : ∃ d S, r = .ok d S ∧ Q d S := by
  cases r with
  | ok d S => exact ⟨d, S, rfl, h⟩
  | exc c d S => exact h.elim
  | bad => exact h.elim
theorem Res.is {r : RF} {d : D} {S : Sto} (h : Res r (fun d' S' => d' = d ∧ S' = S) nE) : r = .ok d S := by
  obtain ⟨d', S', e, rfl, rfl⟩ := h.ex
  exact e
section
variable {α β : Type} {m : M} {f g h : Den} {fs : DenL} {Q : D → M → Prop} {E : Nat → D → M → Prop} {N : M → Prop} {T : D → M → Prop} {QL : List D → M → Prop} {QB : Bool → M → Prop} {sf sg : DenS}
theorem rbind {r : R α} {k : α → M → R β} {Q : β → M → Prop} (h : RE r (fun a m => RE (k a m) Q E) E) : RE (r.bind k) Q E := by cases r <;> exact h
theorem rthen {r : R α} {k : α → M → RS} (h : RE r (fun a m => RT (k a m) N T E) E) : RT (r.thenS k) N T E := by cases r <;> exact h
theorem rofO {o : Option α} {Q : α → M → Prop} (h : ∃ c, o = some c ∧ Q c m) : RE (ofO o m) Q E := by
  obtain ⟨c, rfl, q⟩ := h
  exact q
theorem RE.mono {r : R α} {Q Q' : α → M → Prop} {E E' : Nat → D → M → Prop} (h : RE r Q E) (hq : ∀ a m, Q a m → Q' a m) (he : ∀ c d m, E c d m → E' c d m) : RE r Q' E' := by
  cases r with
  | ok a m => exact hq a m h
  | exc c d m => exact he c d m h
  | bad => exact h
theorem RE.eq {r : R α} {a : α} {Q : α → M → Prop} (h : r = .ok a m) (q : Q a m) : RE r Q E := by rw [h]; exact q
theorem RT.mono {r : RS} {N N' : M → Prop} {T T' : D → M → Prop} {E E' : Nat → D → M → Prop} (h : RT r N T E) (hn : ∀ m, N m → N' m) (ht : ∀ d m, T d m → T' d m) (he : ∀ c d m, E c d m → E' c d m) : RT r N' T' E' := by
  cases r with
  | nx m => exact hn m h
  | rt d m => exact ht d m h
  | exc c d m => exact he c d m h
  | _ => exact h
/-! expressions -/
theorem wk {d : D} (q : Q d m) : RE (zk d m) Q E := q
theorem wvar {i : Nat} {d : D} (h : m.e[i]? = some (.val d)) (q : Q d m) : RE (zvar i m) Q E := by unfold zvar; rw [h]; exact q
theorem wvarB {i : Nat} {xs : List D} (h : m.e[i]? = some (.bld xs)) (q : Q (.lst xs) ⟨m.e.set i (.val (.lst xs)), m.S⟩) : RE (zvar i m) Q E := by unfold zvar; rw [h]; exact q
theorem wop {k : D → D → Option D} (q : RE (f m) (fun d m1 => RE (g m1) (fun e m2 => ∃ c, k d e = some c ∧ Q c m2) E) E) : RE (zop k f g m) Q E := rbind (q.mono (fun _ _ q => rbind (q.mono (fun _ _ q => rofO q) fun _ _ _ q => q)) fun _ _ _ q => q)
theorem wtoB (q : RE (f m) (fun d m1 => ∃ b, d = .bl b ∧ QB b m1) E) : RE (toB f m) QB E := rbind (q.mono (fun d m1 ⟨b, e, q⟩ => by subst e; exact q) fun _ _ _ q => q)
theorem wand (q : RE (f m) (fun d m1 => ∃ b, d = .bl b ∧ (b = true → RE (g m1) Q E) ∧ (b = false → Q (.bl false) m1)) E) : RE (zand f g m) Q E := rbind (q.mono (fun d m1 ⟨b, e, q⟩ => by subst e; cases b; exact q.2 rfl; exact q.1 rfl) fun _ _ _ q => q)
theorem wor (q : RE (f m) (fun d m1 => ∃ b, d = .bl b ∧ (b = true → Q (.bl true) m1) ∧ (b = false → RE (g m1) Q E)) E) : RE (zor f g m) Q E := rbind (q.mono (fun d m1 ⟨b, e, q⟩ => by subst e; cases b; exact q.2 rfl; exact q.1 rfl) fun _ _ _ q => q)
theorem wnot (q : RE (f m) (fun d m1 => ∃ b, d = .bl b ∧ Q (.bl !b) m1) E) : RE (znot f m) Q E := rbind (q.mono (fun d m1 ⟨b, e, q⟩ => by subst e; exact q) fun _ _ _ q => q)
theorem wtand (q : RE (toB f m) (fun b m1 => (b = true → RE (toB g m1) QB E) ∧ (b = false → QB false m1)) E) : RE (toB (zand f g) m) QB E := by
  rw [toB_and]
  exact rbind (q.mono (fun b m1 q => by cases b; exact q.2 rfl; exact q.1 rfl) fun _ _ _ q => q)
theorem wtor (q : RE (toB f m) (fun b m1 => (b = true → QB true m1) ∧ (b = false → RE (toB g m1) QB E)) E) : RE (toB (zor f g) m) QB E := by
  rw [toB_or]
  exact rbind (q.mono (fun b m1 q => by cases b; exact q.2 rfl; exact q.1 rfl) fun _ _ _ q => q)
theorem wtnot (q : RE (toB f m) (fun b m1 => QB (!b) m1) E) : RE (toB (znot f) m) QB E := by
  rw [toB_not]
  exact rbind q
theorem wite (q : RE (toB h m) (fun b m1 => (b = true → RE (f m1) Q E) ∧ (b = false → RE (g m1) Q E)) E) : RE (zite h f g m) Q E := rbind (q.mono (fun b m1 q => by cases b; exact q.2 rfl; exact q.1 rfl) fun _ _ _ q => q)
theorem wchain {k k' : D → D → Option D} (q : RE (f m) (fun d m1 => RE (g m1) (fun e m2 => ∃ c, k d e = some c ∧ ∃ b, c = .bl b ∧ (b = true → RE (h m2) (fun c m3 => ∃ c', k' e c = some c' ∧ Q c' m3) E) ∧ (b = false → Q (.bl false) m2)) E) E) : RE (zchain k k' f g h m) Q E :=
  rbind (q.mono (fun _ _ q => rbind (q.mono (fun _ _ ⟨c, e1, b, e2, q⟩ => rbind (rofO ⟨c, e1, by
    subst e2
    cases b
    · exact q.2 rfl
    · exact rbind ((q.1 rfl).mono (fun _ _ q => rofO q) fun _ _ _ q => q)⟩)) fun _ _ _ q => q)) fun _ _ _ q => q)
theorem wnil (q : QL [] m) : RE (znil m) QL E := q
theorem wcons (q : RE (f m) (fun d m1 => RE (fs m1) (fun ds m2 => QL (d :: ds) m2) E) E) : RE (zcons f fs m) QL E := rbind (q.mono (fun _ _ q => rbind q) fun _ _ _ q => q)
theorem wtup (q : RE (fs m) (fun ds m1 => small ds.length = true ∧ Q (.tup ds) m1) E) : RE (ztup fs m) Q E := rbind (q.mono (fun ds m1 q => by show RE (if small ds.length = true then _ else _) _ _; rw [if_pos q.1]; exact q.2) fun _ _ _ q => q)
theorem wlst (q : RE (fs m) (fun ds m1 => small ds.length = true ∧ QL ds m1) E) : RE (zlstF fs m) QL E := rbind (q.mono (fun ds m1 q => by show RE (if small ds.length = true then _ else _) _ _; rw [if_pos q.1]; exact q.2) fun _ _ _ q => q)
theorem wfrz {fl : DenL} (q : RE (fl m) (fun ds m1 => Q (.lst ds) m1) E) : RE (frz fl m) Q E := rbind q
theorem wcel {fl : DenL} (q : RE (fl m) (fun ds m1 => Q (.cel m1.S.length) ⟨m1.e, m1.S ++ [ds]⟩) E) : RE (celD fl m) Q E := rbind q
theorem wcb {k : List D → Option D} (q : RE (fs m) (fun ds m1 => ∃ c, k ds = some c ∧ Q c m1) E) : RE (zcb k fs m) Q E := rbind (q.mono (fun _ _ q => rofO q) fun _ _ _ q => q)
theorem wcall {φ : Fn} {dd : List D} (q : RE (fs m) (fun ds m1 => Res (φ (ds ++ dd) m1.S) (fun d S => Q d ⟨m1.e, S⟩) (fun c d S => E c d ⟨m1.e, S⟩)) E) : RE (zcall φ dd fs m) Q E := rbind (q.mono (fun ds m1 q => by
  show RE (backR (φ (ds ++ dd) m1.S) m1) Q E
  cases e : φ (ds ++ dd) m1.S <;> rw [e] at q <;> exact q) fun _ _ _ q => q)
theorem wcall0 {φ : Fn} (q : RE (fs m) (fun ds m1 => Res (φ ds m1.S) (fun d S => Q d ⟨m1.e, S⟩) (fun c d S => E c d ⟨m1.e, S⟩)) E) : RE (zcall φ [] fs m) Q E := wcall (q.mono (fun ds m1 q => by rw [List.append_nil]; exact q) fun _ _ _ q => q)
def ixS (S : Sto) (d e : D) : Option D := match d, e with
  | .cel n, .int i => (S[n]?).bind fun xs => atI xs i
  | d, e => idxD d e
theorem widx (q : RE (f m) (fun d m1 => RE (g m1) (fun e m2 => ∃ c, ixS m2.S d e = some c ∧ Q c m2) E) E) : RE (zidx f g m) Q E := rbind (q.mono (fun d _ q => rbind (q.mono (fun e m2 ⟨c, h1, h2⟩ => by
  unfold ixS at h1
  split
  · exact rofO ⟨c, h1, h2⟩
  · rename_i hn
    refine rofO ⟨c, ?_, h2⟩
    split at h1
    · exact absurd rfl (hn _ _ rfl)
    · exact h1) fun _ _ _ q => q)) fun _ _ _ q => q)
theorem wneg (q : RE (f m) (fun d m1 => ∃ i, d = .int i ∧ Q (.int (-i)) m1) E) : RE (zneg f m) Q E := rbind (q.mono (fun d m1 ⟨i, e, q⟩ => by subst e; exact q) fun _ _ _ q => q)
theorem wisi {t : String} (q : RE (f m) (fun d m1 => ∃ c, isiD t d = some c ∧ Q c m1) E) : RE (zisi t f m) Q E := rbind (q.mono (fun _ _ q => rofO q) fun _ _ _ q => q)
theorem wisc {t : Nat → Bool} (q : RE (f m) (fun d m1 => ∃ c, iscD t d = some c ∧ Q c m1) E) : RE (zisc t f m) Q E := rbind (q.mono (fun _ _ q => rofO q) fun _ _ _ q => q)
theorem wval (q : RE (f m) (fun d m1 => ∃ c, valD d = some c ∧ Q c m1) E) : RE (zval f m) Q E := rbind (q.mono (fun _ _ q => rofO q) fun _ _ _ q => q)
theorem wrev (q : RE (f m) (fun d m1 => ∃ c, revD d = some c ∧ Q c m1) E) : RE (zrev f m) Q E := rbind (q.mono (fun _ _ q => rofO q) fun _ _ _ q => q)
theorem wup (q : RE (f m) (fun d m1 => ∃ c, upD d = some c ∧ Q c m1) E) : RE (zup f m) Q E := rbind (q.mono (fun _ _ q => rofO q) fun _ _ _ q => q)
theorem wmk {c : Nat} (q : RE (f m) (fun d m1 => Q (.obj c [d]) m1) E) : RE (zmk c f m) Q E := by
  unfold zmk
  cases e : f m with
  | ok d m1 => rw [e] at q; exact q
  | exc c d m1 => rw [e] at q; exact q
  | bad => rw [e] at q; exact q.elim
theorem wenum (q : RE (fs m) (fun ds m1 => ∃ c, enumS ds = some c ∧ QL c m1) E) : RE (zenum fs m) QL E := rbind (q.mono (fun _ _ q => rofO q) fun _ _ _ q => q)
theorem wonone {QO : Option Int → M → Prop} (q : QO none m) : RE (onone m) QO E := q
theorem wosome {QO : Option Int → M → Prop} (q : RE (f m) (fun d m1 => ∃ i, d = .int i ∧ QO (some i) m1) E) : RE (osome f m) QO E := rbind (q.mono (fun d m1 ⟨i, e, q⟩ => by subst e; exact q) fun _ _ _ q => q)
theorem wslice {lo hi : DenO} (q : RE (f m) (fun d m1 => RE (lo m1) (fun l m2 => RE (hi m2) (fun u m3 => ∃ c, sliceD d l u = some c ∧ Q c m3) E) E) E) : RE (zslice f lo hi m) Q E :=
  rbind (q.mono (fun _ _ q => rbind (q.mono (fun _ _ q => rbind (q.mono (fun _ _ q => rofO q) fun _ _ _ q => q)) fun _ _ _ q => q)) fun _ _ _ q => q)
theorem wlenB {i : Nat} {xs : List D} (h : m.e[i]? = some (.bld xs)) (q : Q (.int xs.length) m) : RE (zlenP i m) Q E := by unfold zlenP; rw [h]; exact q
theorem wlenV {i : Nat} {d : D} (h : m.e[i]? = some (.val d)) (q : ∃ c, lenD [d] = some c ∧ Q c m) : RE (zlenP i m) Q E := by unfold zlenP; rw [h]; exact rofO q
theorem wbld {i : Nat} {k : List D → List D → Option (D × List D)} {xs0 : List D} (h0 : m.e[i]? = some (.bld xs0)) (q : RE (fs m) (fun ds m1 => ∃ xs d ys, m1.e[i]? = some (.bld xs) ∧ k xs ds = some (d, ys) ∧ Q d ⟨m1.e.set i (.bld ys), m1.S⟩) E) : RE (zbld i fs k m) Q E := by
  unfold zbld
  rw [if_pos (by unfold isBld; rw [h0])]
  exact rbind (q.mono (fun ds m1 ⟨xs, d, ys, h1, h2, h3⟩ => by simp only [h1, h2]; exact h3) fun _ _ _ q => q)
theorem wlistF (q : RE (fs m) (fun ds m1 => ∃ c, listS ds = some c ∧ QL c m1) E) : RE (zlistF fs m) QL E := rbind (q.mono (fun _ _ q => rofO q) fun _ _ _ q => q)
theorem wlistRg (q : RE (f m) (fun d m1 => ∃ c, rangeF d = some c ∧ QL c m1) E) : RE (zlistRg f m) QL E := rbind (q.mono (fun _ _ q => rofO q) fun _ _ _ q => q)
theorem wrange (q : RE (fs m) (fun ds m1 => ∃ c, rangeS ds = some c ∧ QL c m1) E) : RE (zrange fs m) QL E := rbind (q.mono (fun _ _ q => rofO q) fun _ _ _ q => q)
theorem wseqI (q : RE (f m) (fun d m1 => ∃ c, seqD d = some c ∧ QL c m1) E) : RE (zseqI f m) QL E := rbind (q.mono (fun _ _ q => rofO q) fun _ _ _ q => q)
theorem wzip (q : RE (fs m) (fun ds m1 => ∃ c, zipS ds = some c ∧ QL c m1) E) : RE (zzip fs m) QL E := rbind (q.mono (fun _ _ q => rofO q) fun _ _ _ q => q)
theorem wdct {ks : List Str} (q : RE (fs m) (fun ds m1 => Q (.dct (ks.map .str) ds) m1) E) : RE (zdct ks fs m) Q E := rbind q
theorem wheard (q : RE (f m) (fun d m1 => Q (.tup [.non, d]) m1) (fun c d m1 => Q (.tup [.obj c [d], .non]) m1)) : RE (zheard f m) Q E := by
  unfold zheard
  cases e : f m <;> rw [e] at q <;> exact q
/-! comprehensions -/
theorem wyes (q : QB true m) : RE (yes m) QB E := q
theorem wcomp {src : DenL} {t : Tg} {c : M → R Bool} {own : List Nat} (q : RE (src m) (fun ds m1 => small ds.length = true ∧ noBld m1.e own = true ∧ RE (compL t c f own ds [] (hide own m1)) (fun xs m2 => QL xs ⟨backE m1.e m2.e own, m2.S⟩) fun _ _ _ => False) E) : RE (zcompF src t c f own m) QL E := by
  refine rbind (q.mono (fun ds m1 ⟨h1, h2, h3⟩ => ?_) fun _ _ _ q => q)
  show RE (if (small ds.length && noBld m1.e own) = true then _ else _) _ _
  rw [if_pos (by rw [h1, h2]; rfl)]
  cases e : compL t c f own ds [] (hide own m1) <;> rw [e] at h3
  · exact h3
  · exact h3.elim
  · exact h3
theorem wcompL {t : Tg} {c : M → R Bool} {own : List Nat} {I : List D → List D → M → Prop} {E' : Nat → D → M → Prop} (hs : ∀ d ds acc m, I (d :: ds) acc m → ∃ m1, t d m = some m1 ∧ RE (c m1) (fun b m2 => (b = true → RE (f m2) (fun x m3 => I ds (acc ++ [x]) (hide own m3)) fun _ _ _ => False) ∧ (b = false → I ds acc (hide own m2))) fun _ _ _ => False)
    (he : ∀ acc m, I [] acc m → QL acc m) : ∀ (ds acc : List D) (m : M), I ds acc m → RE (compL t c f own ds acc m) QL E'
  | [], acc, m, h => he acc m h
  | d :: ds, acc, m, h => by
    obtain ⟨m1, e1, q⟩ := hs d ds acc m h
    unfold compL
    rw [e1]
    show RE (match c m1 with | .ok b m2 => _ | _ => _) _ _
    cases e2 : c m1 with
    | bad => rw [e2] at q; exact q.elim
    | exc _ _ _ => rw [e2] at q; exact q.elim
    | ok b m2 =>
      rw [e2] at q
      cases b with
      | false => exact wcompL hs he ds acc _ (q.2 rfl)
      | true =>
        have q := q.1 rfl
        show RE (match f m2 with | .ok x m3 => _ | _ => _) _ _
        cases e3 : f m2 with
        | bad => rw [e3] at q; exact q.elim
        | exc _ _ _ => rw [e3] at q; exact q.elim
        | ok x m3 => rw [e3] at q; exact wcompL hs he ds _ _ q
/-- elements by a function, nothing else is touched -/
theorem wcompF {t : Tg} {c : M → R Bool} {own : List Nat} {P : D → Bool} {F : D → D} {m0 : M} {ds : List D} {E' : Nat → D → M → Prop} (hs : ∀ d ∈ ds, ∃ m1, t d m0 = some m1 ∧ RE (c m1) (fun b m2 => b = P d ∧ (b = true → RE (f m2) (fun x m3 => x = F d ∧ hide own m3 = m0) fun _ _ _ => False) ∧ (b = false → hide own m2 = m0)) fun _ _ _ => False)
    (q : QL ((ds.filter P).map F) m0) : RE (compL t c f own ds [] m0) QL E' := by
  refine wcompL (I := fun rest acc m => m = m0 ∧ (∀ d ∈ rest, d ∈ ds) ∧ acc ++ (rest.filter P).map F = (ds.filter P).map F) (fun d rest acc m ⟨e, hm, ha⟩ => ?_) (fun acc m ⟨e, _, ha⟩ => ?_) ds [] m0 ⟨rfl, fun _ h => h, rfl⟩
  · subst e
    obtain ⟨m1, e1, h⟩ := hs d (hm d (List.mem_cons_self ..))
    refine ⟨m1, e1, h.mono (fun b m2 ⟨eb, h1, h2⟩ => ?_) fun _ _ _ h => h⟩
    subst eb
    refine ⟨fun hb => (h1 hb).mono (fun x m3 ⟨ex, em⟩ => ?_) fun _ _ _ h => h, fun hb => ⟨h2 hb, fun d' h' => hm d' (List.mem_cons_of_mem _ h'), ?_⟩⟩
    · subst ex
      refine ⟨em, fun d' h' => hm d' (List.mem_cons_of_mem _ h'), ?_⟩
      rw [List.filter_cons_of_pos hb, List.map_cons] at ha
      rw [List.append_assoc]
      exact ha
    · rw [List.filter_cons_of_neg (by rw [hb]; decide)] at ha
      exact ha
  · subst e
    simp only [List.filter_nil, List.map_nil, List.append_nil] at ha
    rw [ha]
    exact q
/-! statements -/
theorem wseq (q : RT (sf m) (fun m1 => RT (sg m1) N T E) T E) : RT (zseq sf sg m) N T E := by
  unfold zseq
  cases e : sf m <;> rw [e] at q <;> exact q
theorem wnext (q : N m) : RT (znext m) N T E := q
theorem wpass (q : N m) : RT (zpass m) N T E := q
theorem wret (q : RE (f m) T E) : RT (zret f m) N T E := rthen q
theorem wif (q : RE (toB h m) (fun b m1 => (b = true → RT (sf m1) N T E) ∧ (b = false → RT (sg m1) N T E)) E) : RT (zif h sf sg m) N T E := rthen (q.mono (fun b m1 q => by cases b; exact q.2 rfl; exact q.1 rfl) fun _ _ _ q => q)
theorem wexpr (q : RE (f m) (fun _ m1 => N m1) E) : RT (zexpr f m) N T E := rthen q
theorem wasg {t : Tg} (q : RE (f m) (fun d m1 => ∃ m2, t d m1 = some m2 ∧ N m2) E) : RT (zasg f t m) N T E := rthen (q.mono (fun d m1 ⟨m2, e, q⟩ => by show RT (match t d m1 with | some m2 => RS.nx m2 | none => .bad) _ _ _; rw [e]; exact q) fun _ _ _ q => q)
theorem wset {i : Nat} (q : RE (f m) (fun d m1 => N ⟨m1.e.set i (.val d), m1.S⟩) E) : RT (zasg f (gset i) m) N T E := wasg (q.mono (fun _ _ q => ⟨_, rfl, q⟩) fun _ _ _ q => q)
theorem wsetB {i : Nat} (q : RE (fs m) (fun xs m1 => N ⟨m1.e.set i (.bld xs), m1.S⟩) E) : RT (zsetB i fs m) N T E := rthen q
theorem wpar {is : List Nat} {gs : M → R (List Sl)} (q : RE (gs m) (fun ss m1 => ss.length = is.length ∧ N (setAll is ss m1)) E) : RT (zpar is gs m) N T E := rthen (q.mono (fun ss m1 q => by show RT (if _ then _ else _) _ _ _; rw [if_pos q.1]; exact q.2) fun _ _ _ q => q)
theorem wsnil {QS : List Sl → M → Prop} (q : QS [] m) : RE (snil m) QS E := q
theorem wsval {QS : List Sl → M → Prop} {gs : M → R (List Sl)} (q : RE (f m) (fun d m1 => RE (gs m1) (fun ss m2 => QS (.val d :: ss) m2) E) E) : RE (sval f gs m) QS E := rbind (q.mono (fun _ _ q => rbind q) fun _ _ _ q => q)
theorem wsnew {QS : List Sl → M → Prop} {gs : M → R (List Sl)} (q : RE (fs m) (fun xs m1 => RE (gs m1) (fun ss m2 => QS (.bld xs :: ss) m2) E) E) : RE (snew fs gs m) QS E := rbind (q.mono (fun _ _ q => rbind q) fun _ _ _ q => q)
theorem wcelSet {n j : Nat} {i : Int} {v : D} {xs : List D} (h1 : m.S[n]? = some xs) (h2 : ixN xs.length i = some j) (q : N ⟨m.e, m.S.set n (xs.set j v)⟩) : RT (celSet m (.cel n) (.int i) v) N T E := by
  unfold celSet
  simp only [h1, h2]
  exact q
theorem wsetItem (q : RE (f m) (fun v m1 => RE (g m1) (fun c m2 => RE (h m2) (fun k m3 => RT (celSet m3 c k v) N T E) E) E) E) : RT (zsetItem f g h m) N T E :=
  rthen (q.mono (fun _ _ q => rthen (q.mono (fun _ _ q => rthen q) fun _ _ _ q => q)) fun _ _ _ q => q)
theorem wraise {c : Nat} (q : RE (f m) (fun d m1 => E c d m1) E) : RT (zraise c f m) N T E := rthen q
theorem wfor {src : DenL} {t : Tg} (q : RE (src m) (fun ds m1 => RT (forL t sf ds m1) N T E) E) : RT (zfor src t sf m) N T E := rthen q
theorem wforL {t : Tg} {I : List D → M → Prop} (hs : ∀ d ds m, I (d :: ds) m → ∃ m1, t d m = some m1 ∧ RT (sf m1) (fun m2 => I ds m2) T E) (he : ∀ m, I [] m → N m) : ∀ (ds : List D) (m : M), I ds m → RT (forL t sf ds m) N T E
  | [], m, h => he m h
  | d :: ds, m, h => by
    obtain ⟨m1, e1, q⟩ := hs d ds m h
    unfold forL
    rw [e1]
    show RT (match sf m1 with | .nx m2 => _ | .ct m2 => _ | .bk m2 => _ | r => r) _ _ _
    cases e2 : sf m1 with
    | nx m2 => rw [e2] at q; exact wforL hs he ds m2 q
    | rt _ _ => rw [e2] at q; exact q
    | exc _ _ _ => rw [e2] at q; exact q
    | bk _ => rw [e2] at q; exact q.elim
    | ct _ => rw [e2] at q; exact q.elim
    | bad => rw [e2] at q; exact q.elim
theorem wwhileL {I : M → Prop} (μ : M → Nat) (hs : ∀ m, I m → RE (toB h m) (fun b m1 => (b = true → RT (sf m1) (fun m2 => I m2 ∧ μ m2 < μ m) T E) ∧ (b = false → N m1)) E) : ∀ (n : Nat) (m : M), I m → μ m < n → RT (whileL h sf n m) N T E
  | 0, m, _, hl => by omega
  | n + 1, m, h0, hl => by
    unfold whileL
    refine rthen ((hs m h0).mono (fun b m1 q => ?_) fun _ _ _ q => q)
    cases b with
    | false => exact q.2 rfl
    | true =>
      have q := q.1 rfl
      show RT (match sf m1 with | .nx m2 => _ | .ct m2 => _ | .bk m2 => _ | r => r) _ _ _
      cases e2 : sf m1 with
      | nx m2 => rw [e2] at q; exact wwhileL μ hs n m2 q.1 (by have := q.2; omega)
      | rt _ _ => rw [e2] at q; exact q
      | exc _ _ _ => rw [e2] at q; exact q
      | bk _ => rw [e2] at q; exact q.elim
      | ct _ => rw [e2] at q; exact q.elim
      | bad => rw [e2] at q; exact q.elim
theorem wwhile {I : M → Prop} (μ : M → Nat) (h0 : I m) (hl : μ m < fuelM m) (hs : ∀ m, I m → RE (toB h m) (fun b m1 => (b = true → RT (sf m1) (fun m2 => I m2 ∧ μ m2 < μ m) T E) ∧ (b = false → N m1)) E) : RT (zwhile h sf m) N T E := wwhileL μ hs _ m h0 hl
theorem wbody {Nm : List Str} {n : Nat} {ds : List D} {S : Sto} {Q : D → Sto → Prop} {E : Nat → D → Sto → Prop} (hl : ds.length = n) (q : RT (sf ⟨padE Nm ds, S⟩) (fun m => Q .non m.S) (fun d m => Q d m.S) (fun c d m => E c d m.S)) : Res (bodyFn Nm n sf ds S) Q E := by
  unfold bodyFn
  rw [if_pos hl]
  cases e : sf ⟨padE Nm ds, S⟩ <;> rw [e] at q <;> exact q
end
theorem b_tf {P : Prop} (h : true = false) : P := nomatch h
theorem b_ft {P : Prop} (h : false = true) : P := nomatch h
theorem b_nt {P : Prop} (h : (!true) = true) : P := nomatch h
theorem b_nf {P : Prop} (h : (!false) = false) : P := nomatch h
theorem exB {b : Bool} {Q : Bool → Prop} (q : Q b) : ∃ b', D.bl b = .bl b' ∧ Q b' := ⟨b, rfl, q⟩
theorem exI {i : Int} {Q : Int → Prop} (q : Q i) : ∃ i', D.int i = .int i' ∧ Q i' := ⟨i, rfl, q⟩
theorem exM {o : Option M} {m2 : M} {N : M → Prop} (h : o = some m2) (q : N m2) : ∃ m, o = some m ∧ N m := ⟨m2, h, q⟩
theorem exC {α : Type} {o : Option α} {c : α} {Q : α → Prop} (h : o = some c) (q : Q c) : ∃ c, o = some c ∧ Q c := ⟨c, h, q⟩
/-! small facts -/
theorem okI {d e : D} (h1 : okD d = true) (h2 : okD e = true) (h3 : ∀ x, d ≠ .str x) : eqD d e = some (.bl (eqb d e)) ∧ neD d e = some (.bl (!eqb d e)) := by
  have hc : (okD d && okD e) = true := by rw [h1, h2]; rfl
  constructor
  · unfold eqD
    split
    · rename_i x y
      exact absurd rfl (h3 x)
    · rw [if_pos hc]
  · unfold neD
    split
    · rename_i x y
      exact absurd rfl (h3 x)
    · rw [if_pos hc]
theorem eqI (a b : Int) : eqX (.int a) (.int b) = some (.bl (decide (a = b))) := by
  show eqD (.int a) (.int b) = _
  have := (okI (d := .int a) (e := .int b) rfl rfl (fun x => nofun)).1
  rw [this]
  congr 2
theorem neI (a b : Int) : neX (.int a) (.int b) = some (.bl (!decide (a = b))) := by
  show neD (.int a) (.int b) = _
  have := (okI (d := .int a) (e := .int b) rfl rfl (fun x => nofun)).2
  rw [this]
  congr 3
theorem eqS (a b : Str) : eqX (.str a) (.str b) = some (.bl (decide (a = b))) := rfl
theorem neS (a b : Str) : neX (.str a) (.str b) = some (.bl (!decide (a = b))) := rfl
theorem eqL0 : ∀ (xs : List D), eqX (.lst xs) (.lst []) = some (.bl xs.isEmpty)
  | [] => rfl
  | x :: xs => by simp [eqX, lenEq]
theorem neL0 : ∀ (xs : List D), neX (.lst xs) (.lst []) = some (.bl !xs.isEmpty)
  | [] => rfl
  | x :: xs => by simp [neX, lenEq]
theorem eqT0 : ∀ (xs : List D), eqX (.tup xs) (.tup []) = some (.bl xs.isEmpty)
  | [] => rfl
  | x :: xs => by simp [eqX, lenEq]
theorem neT0 : ∀ (xs : List D), neX (.tup xs) (.tup []) = some (.bl !xs.isEmpty)
  | [] => rfl
  | x :: xs => by simp [neX, lenEq]
theorem boolsD_map {α : Type} (f : α → Bool) : ∀ xs : List α, boolsD (xs.map fun x => D.bl (f x)) = some (xs.map f)
  | [] => rfl
  | x :: xs => by simp only [List.map_cons, boolsD, boolsD_map f xs, Option.map_some]
theorem allD_bl {α : Type} (f : α → Bool) (xs : List α) : allD [.lst (xs.map fun x => D.bl (f x))] = some (.bl (xs.all f)) := by
  simp only [allD, boolsD_map, Option.map_some]
  simp
theorem anyD_bl {α : Type} (f : α → Bool) (xs : List α) : anyD [.lst (xs.map fun x => D.bl (f x))] = some (.bl (xs.any f)) := by
  simp only [anyD, boolsD_map, Option.map_some]
  simp
theorem allD_true (n : Nat) : allD [.lst (List.replicate n (.bl true))] = some (.bl true) := by
  have := allD_bl (fun _ : Nat => true) (List.replicate n 0)
  rw [List.map_replicate] at this
  rw [this]
  simp
theorem powK {a b : Int} (h : decide (0 ≤ b ∧ (Builtin.Int.intBits a : Int) * b ≤ 2 ^ 27) = true) : powD (.int a) (.int b) = some (.int (a ^ b.toNat)) := by
  simp only [powD]
  rw [if_pos h]
theorem eqT2 (a b c d : Int) : eqX (.tup [.int a, .int b]) (.tup [.int c, .int d]) = some (.bl (decide (a = c) && decide (b = d))) := by
  rw [show eqX (.tup [.int a, .int b]) (.tup [.int c, .int d]) = eqD (.tup [.int a, .int b]) (.tup [.int c, .int d]) by simp [eqX, lenEq]]
  rw [(okI (d := .tup [.int a, .int b]) (e := .tup [.int c, .int d]) rfl rfl (fun x => nofun)).1]
  simp only [eqb, eqbL, Bool.and_true]
  rfl
theorem neT2 (a b c d : Int) : neX (.tup [.int a, .int b]) (.tup [.int c, .int d]) = some (.bl (!(decide (a = c) && decide (b = d)))) := by
  rw [show neX (.tup [.int a, .int b]) (.tup [.int c, .int d]) = neD (.tup [.int a, .int b]) (.tup [.int c, .int d]) by simp [neX, lenEq]]
  rw [(okI (d := .tup [.int a, .int b]) (e := .tup [.int c, .int d]) rfl rfl (fun x => nofun)).2]
  simp only [eqb, eqbL, Bool.and_true]
  rfl
theorem eqBl (a b : Bool) : eqX (.bl a) (.bl b) = some (.bl (a == b)) := by
  show eqD (.bl a) (.bl b) = _
  rw [(okI (d := .bl a) (e := .bl b) rfl rfl (fun x => nofun)).1]
  rfl
theorem neBl (a b : Bool) : neX (.bl a) (.bl b) = some (.bl (!(a == b))) := by
  show neD (.bl a) (.bl b) = _
  rw [(okI (d := .bl a) (e := .bl b) rfl rfl (fun x => nofun)).2]
  rfl
theorem sm {α : Type} {xs : List α} (h : xs.length < 1000000) : small xs.length = true := small_of h
end Z

set_option Elab.async false
set_option linter.all false
set_option maxRecDepth 100000
set_option maxHeartbeats 4000000
/-! Z27: plain data without dicts: repr is told -/
namespace Z
open PySem PySem.Spec PyProof.Rows L2 RZ
def txB (x : Str) : Bool := decide (x.length ≤ 100000) && x.cps.toList.all fun c => decide (c < 128)
mutual
/-- no dicts, numbers of at most b bits, texts not too long -/
def gd (b : Nat) : D → Bool
  | .non => true
  | .bl _ => true
  | .int i => decide (i.natAbs < 2 ^ b)
  | .str x => txB x
  | .tup xs => gds b xs
  | .lst xs => gds b xs
  | _ => false
def gds (b : Nat) : List D → Bool
  | [] => true
  | d :: ds => gd b d && gds b ds
end
mutual
def wt : D → Nat
  | .int _ => 2000
  | .str x => 10 * x.length + 10
  | .tup xs => wts xs + 10
  | .lst xs => wts xs + 10
  | _ => 10
def wts : List D → Nat
  | [] => 0
  | d :: ds => wt d + 2 + wts ds
end
mutual
def dp : D → Nat
  | .tup xs => dps xs + 1
  | .lst xs => dps xs + 1
  | _ => 0
def dps : List D → Nat
  | [] => 0
  | d :: ds => max (dp d) (dps ds)
end
theorem gds_iff {b : Nat} : ∀ {ds : List D}, gds b ds = true ↔ ∀ d ∈ ds, gd b d = true
  | [] => by simp [gds]
  | d :: ds => by simp [gds, gds_iff (ds := ds)]
theorem wts_app : ∀ (xs ys : List D), wts (xs ++ ys) = wts xs + wts ys
  | [], ys => by simp [wts]
  | x :: xs, ys => by
    rw [List.cons_append, wts, wts, wts_app xs ys]
    omega
theorem dps_app : ∀ (xs ys : List D), dps (xs ++ ys) = max (dps xs) (dps ys)
  | [], ys => by simp [dps]
  | x :: xs, ys => by
    rw [List.cons_append, dps, dps, dps_app xs ys]
    omega
theorem join_len (sep : Str) : ∀ ts : List Str, (Str.join ", " ts).length ≤ (ts.map fun t => t.length + 2).sum
  | [] => by simp [Str.join]; rfl
  | [x] => by
    show x.length ≤ _
    simp
  | x :: y :: r => by
    have ih := join_len sep (y :: r)
    show (x ++ ", " ++ Str.join ", " (y :: r)).length ≤ _
    rw [strLen_append, strLen_append]
    have e : ((", " : String) : Str).length = 2 := rfl
    rw [List.map_cons, List.sum_cons]
    omega
theorem textFrom_le : ∀ (ts : List Str) (k : Nat) (acc : Str), (textFrom k acc ts).length ≤ acc.length + (ts.map fun t => t.length + 2).sum
  | [], k, acc => by simp [textFrom]
  | t :: ts, k, acc => by
    have ih := textFrom_le ts (k + 1) (acc ++ (if k > 0 then ", " else "" : String) ++ t)
    have e : (acc ++ (if k > 0 then ", " else "" : String) ++ t).length ≤ acc.length + 2 + t.length := by
      rw [strLen_append, strLen_append]
      split
      · have e : ((", " : String) : Str).length = 2 := rfl
        omega
      · have e : (("" : String) : Str).length = 0 := rfl
        omega
    rw [List.map_cons, List.sum_cons]
    have e2 : textFrom k acc (t :: ts) = textFrom (k + 1) (acc ++ (if k > 0 then ", " else "" : String) ++ t) ts := rfl
    rw [e2]
    omega
mutual
theorem gd_shown {b : Nat} (hb : b ≤ 1000) : ∀ (d : D), gd b d = true → ∃ p, toX d = some p ∧ p.showable = true ∧ p.hasDict = false ∧ p.depth = dp d ∧ p.shown.length ≤ wt d
  | .non, _ => ⟨.none, by simp [toX], by simp [PyData.showable], by simp [PyData.hasDict], by simp [PyData.depth, dp], by simp [wt, PyData.shown]; decide⟩
  | .bl c, _ => ⟨.bool c, by simp [toX], by simp [PyData.showable], by simp [PyData.hasDict], by simp [PyData.depth, dp], by cases c <;> simp [wt, PyData.shown] <;> decide⟩
  | .int i, h => by
    simp only [gd, decide_eq_true_eq] at h
    have hl : i.natAbs.log2 < 1920 := by
      by_cases h0 : i.natAbs = 0
      · rw [h0]; decide
      · exact (Nat.log2_lt h0).mpr (Nat.lt_of_lt_of_le h (Nat.pow_le_pow_right (by decide) (by omega)))
    refine ⟨.int i, by simp [toX], by simp [PyData.showable, hl], by simp [PyData.hasDict], by simp [PyData.depth, dp], ?_⟩
    have := int_text_len_1921 hl
    simp only [PyData.shown, wt]
    exact Nat.le_trans this (by decide)
  | .str x, h => by
    simp only [gd, txB, Bool.and_eq_true, decide_eq_true_eq, List.all_eq_true] at h
    refine ⟨.str x, by simp [toX], by simp [PyData.showable], by simp [PyData.hasDict], by simp [PyData.depth, dp], ?_⟩
    have := StrLaws.reprText_len x (fun c hc => Nat.lt_trans (h.2 c hc) (by decide))
    simp only [PyData.shown, wt]
    omega
  | .tup xs, h => by
    simp only [gd] at h
    obtain ⟨ps, e1, e2, e3, e4, e5⟩ := gds_shown hb xs h
    refine ⟨.tuple ps, by simp [toX, e1], by simp [PyData.showable, e2], by simp [PyData.hasDict, e3], by simp [PyData.depth, dp, e4], ?_⟩
    have := join_len "" (PyData.shownAll ps)
    simp only [PyData.shown, wt, tupleText]
    rw [strLen_append, strLen_append]
    have e6 : (("(" : String) : Str).length = 1 := rfl
    have e7 : ((if (PyData.shownAll ps).length == 1 then ",)" else ")" : String) : Str).length ≤ 2 := by split <;> decide
    omega
  | .lst xs, h => by
    simp only [gd] at h
    obtain ⟨ps, e1, e2, e3, e4, e5⟩ := gds_shown hb xs h
    refine ⟨.list ps, by simp [toX, e1], by simp [PyData.showable, e2], by simp [PyData.hasDict, e3], by simp [PyData.depth, dp, e4], ?_⟩
    have := textFrom_le (PyData.shownAll ps) 0 "["
    simp only [PyData.shown, wt, listText]
    rw [strLen_append]
    have e6 : (("[" : String) : Str).length = 1 := rfl
    have e7 : (("]" : String) : Str).length = 1 := rfl
    omega
  | .dct _ _, h => by simp [gd] at h
  | .cel _, h => by simp [gd] at h
  | .obj _ _, h => by simp [gd] at h
  | .scr _, h => by simp [gd] at h
  | .ins _ _, h => by simp [gd] at h
theorem gds_shown {b : Nat} (hb : b ≤ 1000) : ∀ (ds : List D), gds b ds = true → ∃ ps, toXs ds = some ps ∧ PyData.showableAll ps = true ∧ PyData.hasDictAll ps = false ∧ PyData.depthAll ps = dps ds ∧ ((PyData.shownAll ps).map fun t => t.length + 2).sum ≤ wts ds
  | [], _ => ⟨[], by simp [toXs], by simp [PyData.showableAll], by simp [PyData.hasDictAll], by simp [PyData.depthAll, dps], by simp [PyData.shownAll, wts]⟩
  | d :: ds, h => by
    simp only [gds, Bool.and_eq_true] at h
    obtain ⟨p, a1, a2, a3, a4, a5⟩ := gd_shown hb d h.1
    obtain ⟨ps, e1, e2, e3, e4, e5⟩ := gds_shown hb ds h.2
    refine ⟨p :: ps, by simp [toXs, a1, e1], by simp [PyData.showableAll, a2, e2], by simp [PyData.hasDictAll, a3, e3], by simp [PyData.depthAll, dps, a4, e4], ?_⟩
    simp only [PyData.shownAll, List.map_cons, List.sum_cons, wts]
    omega
end
theorem gd_repr {b : Nat} {d : D} (hb : b ≤ 1000) (h : gd b d = true) (hw : wt d ≤ 10000000) (hd : dp d < 60) : ∃ x, reprX [d] = some (.str x) := by
  obtain ⟨p, e1, e2, e3, e4, e5⟩ := gd_shown hb d h
  refine ⟨p.shown, ?_⟩
  have : shX p = true := by
    unfold shX
    rw [e2, e3, e4]
    have h1 : decide (dp d < 60) = true := decide_eq_true hd
    have h2 : decide (p.shown.length ≤ sizeLine) = true := decide_eq_true (Nat.le_trans e5 (Nat.le_trans hw (by decide)))
    rw [h1, h2]
    rfl
  simp only [reprX, e1, this, if_true]
theorem wts_take : ∀ (xs : List D) (n : Nat), wts (xs.take n) ≤ wts xs
  | [], n => by simp [wts]
  | x :: xs, 0 => by simp [wts]
  | x :: xs, n + 1 => by
    have := wts_take xs n
    simp only [List.take_succ_cons, wts]
    omega
theorem wts_drop : ∀ (xs : List D) (n : Nat), wts (xs.drop n) ≤ wts xs
  | [], n => by simp [wts]
  | x :: xs, 0 => by simp
  | x :: xs, n + 1 => by
    have := wts_drop xs n
    simp only [List.drop_succ_cons, wts]
    omega
theorem dps_le : ∀ {xs : List D} {n : Nat}, dps xs ≤ n ↔ ∀ x ∈ xs, dp x ≤ n
  | [], n => by simp [dps]
  | x :: xs, n => by
    have := dps_le (xs := xs) (n := n)
    simp only [dps, List.mem_cons, forall_eq_or_imp, ← this]
    omega
theorem mem_cut {xs : List D} {lo hi : Option Int} {d : D} (h : d ∈ cutL xs lo hi) : d ∈ xs := List.mem_of_mem_drop (List.mem_of_mem_take h)
theorem wts_cut (xs : List D) (lo hi : Option Int) : wts (cutL xs lo hi) ≤ wts xs := Nat.le_trans (wts_take _ _) (wts_drop _ _)
/-- a value that is shown -/
structure Gd (b w n : Nat) (d : D) : Prop where
  g : gd b d = true
  w : wt d ≤ w
  n : dp d ≤ n
theorem Gd.mono {b b' w w' n n' : Nat} {d : D} (h : Gd b w n d) (h2 : w ≤ w') (h3 : n ≤ n') (hb : b = b' := by rfl) : Gd b' w' n' d := ⟨hb ▸ h.g, Nat.le_trans h.w h2, Nat.le_trans h.n h3⟩
mutual
theorem gd_mono {b b' : Nat} (hb : b ≤ b') : ∀ d : D, gd b d = true → gd b' d = true
  | .non, _ => by simp [gd]
  | .bl _, _ => by simp [gd]
  | .int i, h => by
    simp only [gd, decide_eq_true_eq] at h ⊢
    exact Nat.lt_of_lt_of_le h (Nat.pow_le_pow_right (by decide) hb)
  | .str x, h => by simp only [gd] at h ⊢; exact h
  | .tup xs, h => by simp only [gd] at h ⊢; exact gds_mono hb xs h
  | .lst xs, h => by simp only [gd] at h ⊢; exact gds_mono hb xs h
  | .dct _ _, h => by simp [gd] at h
  | .cel _, h => by simp [gd] at h
  | .obj _ _, h => by simp [gd] at h
  | .scr _, h => by simp [gd] at h
  | .ins _ _, h => by simp [gd] at h
theorem gds_mono {b b' : Nat} (hb : b ≤ b') : ∀ ds : List D, gds b ds = true → gds b' ds = true
  | [], _ => by simp [gds]
  | d :: ds, h => by
    simp only [gds, Bool.and_eq_true] at h ⊢
    exact ⟨gd_mono hb d h.1, gds_mono hb ds h.2⟩
end
theorem gd_tup {b w n : Nat} {xs : List D} (h : ∀ x ∈ xs, gd b x = true) (hw : wts xs + 10 ≤ w) (hn : ∀ x ∈ xs, dp x + 1 ≤ n) (h1 : 1 ≤ n) : Gd b w n (.tup xs) :=
  ⟨by simp only [gd]; exact gds_iff.mpr h, by simp only [wt]; exact hw, by
    simp only [dp]
    have h3 := (dps_le (xs := xs) (n := n - 1)).mpr fun x hx => (by have := hn x hx; omega)
    omega⟩
theorem gd_lst {b w n : Nat} {xs : List D} (h : ∀ x ∈ xs, gd b x = true) (hw : wts xs + 10 ≤ w) (hn : ∀ x ∈ xs, dp x + 1 ≤ n) (h1 : 1 ≤ n) : Gd b w n (.lst xs) :=
  ⟨by simp only [gd]; exact gds_iff.mpr h, by simp only [wt]; exact hw, by
    simp only [dp]
    have h3 := (dps_le (xs := xs) (n := n - 1)).mpr fun x hx => (by have := hn x hx; omega)
    omega⟩
theorem wts_at : ∀ (xs : List D) (i : Nat) (h : i < xs.length), wts (xs.take i) + (wt xs[i] + 2) + wts (xs.drop (i + 1)) = wts xs
  | x :: xs, 0, _ => by simp [wts]
  | x :: xs, i + 1, h => by
    have := wts_at xs i (by simpa using h)
    simp only [List.take_succ_cons, List.getElem_cons_succ, List.drop_succ_cons, wts]
    omega
theorem cut_take {α : Type} (xs : List α) (a : Nat) : cutL xs none (some (a : Int)) = xs.take a := by
  unfold cutL
  rw [HT.sIx_none, HT.sIx_nat, List.drop_zero, Nat.sub_zero]
  rcases Nat.le_total a xs.length with h | h
  · rw [Nat.min_eq_left h]
  · rw [Nat.min_eq_right h, List.take_length, List.take_of_length_le h]
theorem cut_drop {α : Type} (xs : List α) (a : Nat) : cutL xs (some (a : Int)) none = xs.drop a := by
  unfold cutL
  rw [HT.sIx_none, HT.sIx_nat]
  rcases Nat.le_total a xs.length with h | h
  · rw [Nat.min_eq_left h]
    exact List.take_of_length_le (by simp)
  · rw [Nat.min_eq_right h, Nat.sub_self, List.drop_of_length_le h]
    rfl
theorem len_wts : ∀ xs : List D, xs.length ≤ wts xs
  | [] => by simp [wts]
  | x :: xs => by
    have := len_wts xs
    simp only [wts, List.length_cons]
    omega
theorem wts_rev : ∀ xs : List D, wts xs.reverse = wts xs
  | [] => rfl
  | x :: xs => by
    rw [List.reverse_cons, wts_app, wts_rev xs]
    simp only [wts]
    omega
theorem addT {xs ys : List D} (h : xs.length + ys.length < 1000000) : addD (.tup xs) (.tup ys) = some (.tup (xs ++ ys)) := by
  simp only [addD]
  rw [if_pos (small_of h)]
theorem addL {xs ys : List D} (h : xs.length + ys.length < 1000000) : addD (.lst xs) (.lst ys) = some (.lst (xs ++ ys)) := by
  simp only [addD]
  rw [if_pos (small_of h)]
theorem addS {x y : Str} (h : x.length + y.length < 1000000) : addD (.str x) (.str y) = some (.str (x ++ y)) := by
  simp only [addD]
  rw [if_pos (small_of h)]
theorem gd_sub {b w n : Nat} {xs ys : List D} (hg : gd b (.tup xs) = true) (h : ∀ y ∈ ys, y ∈ xs ∨ y = .int 0) (hw : wts ys + 10 ≤ w) (hn : dp (.tup xs) ≤ n) : Gd (b + 1) w n (.tup ys) := by
  simp only [gd] at hg
  simp only [dp] at hn
  refine gd_tup (fun y hy => ?_) hw (fun y hy => ?_) (by omega)
  · rcases h y hy with h | rfl
    · exact gd_mono (by omega) _ (gds_iff.mp hg y h)
    · simp only [gd, decide_eq_true_eq]; exact Nat.two_pow_pos _
  · rcases h y hy with h | rfl
    · have := (dps_le (xs := xs)).mp (Nat.le_refl _) y h; omega
    · simp only [dp]; omega
theorem gd_subL {b w n : Nat} {xs ys : List D} (hg : gd b (.tup xs) = true) (h : ∀ y ∈ ys, y ∈ xs) (hw : wts ys + 10 ≤ w) (hn : dp (.tup xs) ≤ n) : Gd (b + 1) w n (.lst ys) := by
  simp only [gd] at hg
  simp only [dp] at hn
  refine gd_lst (fun y hy => gd_mono (by omega) _ (gds_iff.mp hg y (h y hy))) hw (fun y hy => ?_) (by omega)
  have := (dps_le (xs := xs)).mp (Nat.le_refl _) y (h y hy)
  omega
end Z

set_option Elab.async false
set_option linter.all false
set_option maxRecDepth 100000
set_option maxHeartbeats 4000000
/-! Z35: rules for texts, objects; plain data -/
namespace Z
open PySem PySem.Spec PyProof.Rows L2 RZ
section
variable {α β : Type} {m : M} {f g h : Den} {fs : DenL} {Q : D → M → Prop} {E : Nat → D → M → Prop} {N : M → Prop} {T : D → M → Prop} {QL : List D → M → Prop} {QB : Bool → M → Prop} {sf sg : DenS}
theorem wsplit (q : RE (f m) (fun d m1 => ∃ a, d = .str a ∧ RE (g m1) (fun e m2 => ∃ c, splitD a e = some c ∧ Q c m2) E) E) : RE (zsplit f g m) Q E :=
  rbind (q.mono (fun d m1 ⟨a, e, q⟩ => by subst e; exact rbind (q.mono (fun _ _ q => rofO q) fun _ _ _ q => q)) fun _ _ _ q => q)
theorem wjoin (q : RE (f m) (fun d m1 => ∃ a, d = .str a ∧ RE (g m1) (fun e m2 => ∃ c, joinD a e = some c ∧ Q c m2) E) E) : RE (zjoin f g m) Q E :=
  rbind (q.mono (fun d m1 ⟨a, e, q⟩ => by subst e; exact rbind (q.mono (fun _ _ q => rofO q) fun _ _ _ q => q)) fun _ _ _ q => q)
theorem wlenSet (q : RE (f m) (fun d m1 => ∃ c, lenSetD d = some c ∧ Q c m1) E) : RE (zlenSet f m) Q E := rbind (q.mono (fun _ _ q => rofO q) fun _ _ _ q => q)
theorem wfldO {c i : Nat} (q : RE (f m) (fun d m1 => ∃ ds, d = .ins c ds ∧ ∃ x, ds[i]? = some x ∧ Q x m1) E) : RE (zfld c i f m) Q E :=
  rbind (q.mono (fun d m1 ⟨ds, e, q⟩ => by subst e; show RE (if c = c then _ else _) _ _; rw [if_pos rfl]; exact rofO q) fun _ _ _ q => q)
theorem wprop {c : Nat} {φ : Fn} (q : RE (f m) (fun d m1 => ∃ ds, d = .ins c ds ∧ Res (φ [.ins c ds] m1.S) (fun x S => Q x ⟨m1.e, S⟩) nE) E) : RE (zprop c φ f m) Q E :=
  rbind (q.mono (fun d m1 ⟨ds, e, q⟩ => by
    subst e
    show RE (if c = c then backR (quiet (φ [.ins c ds] m1.S)) m1 else .bad) _ _
    rw [if_pos rfl]
    cases e : φ [.ins c ds] m1.S with
    | ok d S => rw [e] at q; exact q
    | exc _ _ _ => rw [e] at q; exact q.elim
    | bad => rw [e] at q; exact q.elim) fun _ _ _ q => q)
theorem wmeth {c : Nat} {φ : Fn} (q : RE (f m) (fun d m1 => ∃ ds, d = .ins c ds ∧ RE (fs m1) (fun es m2 => Res (φ (.ins c ds :: es) m2.S) (fun x S => Q x ⟨m2.e, S⟩) (fun k d S => E k d ⟨m2.e, S⟩)) E) E) : RE (zmeth c φ f fs m) Q E :=
  rbind (q.mono (fun d m1 ⟨ds, e, q⟩ => by
    subst e
    show RE (if c = c then (fs m1).bind fun es m2 => backR (φ (.ins c ds :: es) m2.S) m2 else .bad) _ _
    rw [if_pos rfl]
    refine rbind (q.mono (fun es m2 q => ?_) fun _ _ _ q => q)
    cases e : φ (.ins c ds :: es) m2.S <;> rw [e] at q <;> exact q) fun _ _ _ q => q)
def inSl (m : M) (i : Nat) (d : D) : Option D := match m.e[i]? with
  | some (.box .l xs) => inX d (.lst xs)
  | some (.val e) => inX d e
  | _ => none
def ninSl (m : M) (i : Nat) (d : D) : Option D := match m.e[i]? with
  | some (.box .l xs) => ninL d (.lst xs)
  | some (.val e) => ninL d e
  | _ => none
theorem inSl_b {i : Nat} {d : D} {xs : List D} (h : m.e[i]? = some (.bld xs)) : inSl m i d = inX d (.lst xs) := by unfold inSl; rw [h]
theorem ninSl_b {i : Nat} {d : D} {xs : List D} (h : m.e[i]? = some (.bld xs)) : ninSl m i d = ninL d (.lst xs) := by unfold ninSl; rw [h]
theorem inSl_v {i : Nat} {d e : D} (h : m.e[i]? = some (.val e)) : inSl m i d = inX d e := by unfold inSl; rw [h]
theorem ninSl_v {i : Nat} {d e : D} (h : m.e[i]? = some (.val e)) : ninSl m i d = ninL d e := by unfold ninSl; rw [h]
theorem winB {i : Nat} (q : RE (f m) (fun d m1 => ∃ c, inSl m1 i d = some c ∧ Q c m1) E) : RE (zinB i f m) Q E := rbind (q.mono (fun d m1 ⟨c, e, q⟩ => by
  unfold inSl at e
  split
  · rename_i h; rw [h] at e; exact rofO ⟨c, e, q⟩
  · rename_i h; rw [h] at e; exact rofO ⟨c, e, q⟩
  · rename_i h1 h2
    split at e
    · rename_i h; exact absurd h (h1 _)
    · rename_i h; exact absurd h (h2 _)
    · cases e) fun _ _ _ q => q)
theorem wninB {i : Nat} (q : RE (f m) (fun d m1 => ∃ c, ninSl m1 i d = some c ∧ Q c m1) E) : RE (zninB i f m) Q E := rbind (q.mono (fun d m1 ⟨c, e, q⟩ => by
  unfold ninSl at e
  split
  · rename_i h; rw [h] at e; exact rofO ⟨c, e, q⟩
  · rename_i h; rw [h] at e; exact rofO ⟨c, e, q⟩
  · rename_i h1 h2
    split at e
    · rename_i h; exact absurd h (h1 _)
    · rename_i h; exact absurd h (h2 _)
    · cases e) fun _ _ _ q => q)
/-- a, *b = list -/
theorem wstar {i j : Nat} (q : RE (f m) (fun d m1 => ∃ x xs, d = .lst (x :: xs) ∧ xs.length < 10000 ∧ N ⟨(m1.e.set i (.val x)).set j (.val (.lst xs)), m1.S⟩) E) : RT (zasg f (gstar (gcons (gset i) (gcons (gset j) gnil))) m) N T E :=
  wasg (q.mono (fun d m1 ⟨x, xs, e, hl, q⟩ => by
    subst e
    refine ⟨_, ?_, q⟩
    unfold gstar
    simp only [if_pos hl]
    rfl) fun _ _ _ q => q)
theorem wseqN (q : RT (sf m) (fun m1 => RT (sg m1) N T E) (fun _ _ => False) E) : RT (zseqN sf sg m) N T E := by
  unfold zseqN
  cases e : sf m <;> rw [e] at q <;> first | exact q | exact q.elim
theorem wblk {gb : List (Option D) → DenS} (h : m.e[0]? = some .slf) (q : RT (gb [] m) N T E) : RT (zblk gb m) N T E := by
  unfold zblk
  rw [h]
  exact q
theorem wfld1 {i : Nat} {gb : List (Option D) → DenS} {acc : List (Option D)} (q : RE (f m) (fun d m1 => RT (gb (putD i d acc) m1) N T E) (fun _ _ _ => False)) : RT (zfld1 i f gb acc m) N T E := by
  unfold zfld1
  cases e : f m <;> rw [e] at q <;> first | exact q | exact q.elim
theorem wmade {c : Nat} {acc : List (Option D)} {d : D} {ds : List D} (h : allSome acc = some (d :: ds)) (q : T (.ins c (d :: ds)) m) : RT (zmade c acc m) N T E := by
  unfold zmade
  rw [h]
  exact q
theorem winit {Nm : List Str} {n : Nat} {ds : List D} {S : Sto} {Q : D → Sto → Prop} {E : Nat → D → Sto → Prop} (hl : ds.length = n) (q : RT (sf ⟨.slf :: padE Nm ds, S⟩) (fun _ => False) (fun d m => Q d m.S) (fun c d m => E c d m.S)) : Res (initFn Nm n sf ds S) Q E := by
  unfold initFn
  rw [if_pos hl]
  cases e : sf ⟨.slf :: padE Nm ds, S⟩ <;> rw [e] at q <;> first | exact q | exact q.elim
end
theorem exS {x : Str} {Q : Str → Prop} (q : Q x) : ∃ y, D.str x = .str y ∧ Q y := ⟨x, rfl, q⟩
theorem exO {c : Nat} {xs : List D} {Q : List D → Prop} (q : Q xs) : ∃ ds, D.ins c xs = .ins c ds ∧ Q ds := ⟨xs, rfl, q⟩
theorem exG {xs : List D} {i : Nat} {x : D} {Q : D → Prop} (h : xs[i]? = some x) (q : Q x) : ∃ y, xs[i]? = some y ∧ Q y := ⟨x, h, q⟩
theorem exL {x : D} {xs : List D} {Q : D → List D → Prop} (q : Q x xs) : ∃ y ys, D.lst (x :: xs) = .lst (y :: ys) ∧ Q y ys := ⟨x, xs, rfl, q⟩
theorem Res.isExc {r : RF} {c : Nat} {d : D} {S : Sto} (h : Res r (fun _ _ => False) (fun c' x S' => c' = c ∧ x = d ∧ S' = S)) : r = .exc c d S := by
  cases r with
  | ok _ _ => exact h.elim
  | bad => exact h.elim
  | exc c' x S' =>
    obtain ⟨rfl, rfl, rfl⟩ := h
    rfl
/-! ### plain data with texts of plain signs -/
abbrev asc (x : Str) : Bool := x.cps.toList.all fun c => decide (c < 128)
mutual
def pl1 : D → Bool
  | .non => true
  | .bl _ => true
  | .int _ => true
  | .str x => asc x
  | .tup xs => pl1s xs
  | .lst xs => pl1s xs
  | _ => false
def pl1s : List D → Bool
  | [] => true
  | d :: ds => pl1 d && pl1s ds
end
theorem pl1s_iff : ∀ {ds : List D}, pl1s ds = true ↔ ∀ d ∈ ds, pl1 d = true
  | [] => by simp [pl1s]
  | d :: ds => by simp [pl1s, pl1s_iff (ds := ds)]
theorem pl1s_app {xs ys : List D} : pl1s (xs ++ ys) = (pl1s xs && pl1s ys) := by
  rw [Bool.eq_iff_iff]
  simp only [Bool.and_eq_true, pl1s_iff, List.mem_append]
  exact ⟨fun h => ⟨fun d hd => h d (.inl hd), fun d hd => h d (.inr hd)⟩, fun h d hd => hd.elim (h.1 d) (h.2 d)⟩
theorem strOk_asc {x : Str} (h : asc x = true) : PyData.strOk x = true := by
  unfold PyData.strOk
  rw [← Array.all_toList, List.all_eq_true]
  intro c hc
  have := of_decide_eq_true (List.all_eq_true.mp h c hc)
  exact decide_eq_true (by omega)
mutual
theorem pl1_toP : ∀ (d : D), pl1 d = true → ∃ p, toP d = some p ∧ p.canLay0 = true ∧ p.depth ≤ dp d
  | .non, _ => ⟨.none, rfl, rfl, Nat.le_refl _⟩
  | .bl b, _ => ⟨.bool b, rfl, rfl, Nat.le_refl _⟩
  | .int i, _ => ⟨.int i, rfl, rfl, Nat.le_refl _⟩
  | .str x, h => ⟨.str x, rfl, by simp only [pl1] at h; simp only [PyData.canLay0]; exact strOk_asc h, Nat.le_refl _⟩
  | .tup xs, h => by
    simp only [pl1] at h
    obtain ⟨ps, e, h1, h2⟩ := pl1_toPL xs h
    exact ⟨.tuple ps, by simp only [toP, e, Option.map_some], by simp only [PyData.canLay0]; exact h1, by simp only [PyData.depth, dp]; omega⟩
  | .lst xs, h => by
    simp only [pl1] at h
    obtain ⟨ps, e, h1, h2⟩ := pl1_toPL xs h
    exact ⟨.list ps, by simp only [toP, e, Option.map_some], by simp only [PyData.canLay0]; exact h1, by simp only [PyData.depth, dp]; omega⟩
  | .dct _ _, h => by simp [pl1] at h
  | .cel _, h => by simp [pl1] at h
  | .obj _ _, h => by simp [pl1] at h
  | .scr _, h => by simp [pl1] at h
  | .ins _ _, h => by simp [pl1] at h
theorem pl1_toPL : ∀ (ds : List D), pl1s ds = true → ∃ ps, toPL ds = some ps ∧ PyData.canLayAll0 ps = true ∧ PyData.depthAll ps ≤ dps ds
  | [], _ => ⟨[], rfl, rfl, Nat.le_refl _⟩
  | d :: ds, h => by
    simp only [pl1s, Bool.and_eq_true] at h
    obtain ⟨p, e, h1, h2⟩ := pl1_toP d h.1
    obtain ⟨ps, e2, h3, h4⟩ := pl1_toPL ds h.2
    exact ⟨p :: ps, by simp only [toPL, e, e2, Option.bind_some, Option.map_some], by simp only [PyData.canLayAll0, h1, h3, Bool.and_true], by simp only [PyData.depthAll, dps]; omega⟩
end
theorem pl1_ok {d : D} (h : pl1 d = true) (h2 : dp d ≤ 64) : okD d = true := by
  obtain ⟨p, e, h3, h4⟩ := pl1_toP d h
  unfold okD
  rw [e]
  show SeqAt.shaped p = true
  unfold SeqAt.shaped
  rw [h3, decide_eq_true (show p.depth ≤ 64 by omega)]
  rfl
mutual
theorem gd_pl1 {b : Nat} : ∀ (d : D), gd b d = true → pl1 d = true
  | .non, _ => rfl
  | .bl _, _ => rfl
  | .int _, _ => rfl
  | .str x, h => by
    simp only [gd, txB, Bool.and_eq_true] at h
    simp only [pl1]
    exact h.2
  | .tup xs, h => by simp only [gd] at h; simp only [pl1]; exact gds_pl1 xs h
  | .lst xs, h => by simp only [gd] at h; simp only [pl1]; exact gds_pl1 xs h
  | .dct _ _, h => by simp [gd] at h
  | .cel _, h => by simp [gd] at h
  | .obj _ _, h => by simp [gd] at h
  | .scr _, h => by simp [gd] at h
  | .ins _ _, h => by simp [gd] at h
theorem gds_pl1 {b : Nat} : ∀ (ds : List D), gds b ds = true → pl1s ds = true
  | [], _ => rfl
  | d :: ds, h => by
    simp only [gds, Bool.and_eq_true] at h
    simp only [pl1s, Bool.and_eq_true]
    exact ⟨gd_pl1 d h.1, gds_pl1 ds h.2⟩
end
mutual
theorem eqb_refl : ∀ (d : D), pl1 d = true → eqb d d = true
  | .non, _ => rfl
  | .bl b, _ => by simp [eqb]
  | .int i, _ => by simp [eqb]
  | .str x, _ => by simp [eqb]
  | .tup xs, h => by simp only [pl1] at h; simp only [eqb]; exact eqbL_refl xs h
  | .lst xs, h => by simp only [pl1] at h; simp only [eqb]; exact eqbL_refl xs h
  | .dct _ _, h => by simp [pl1] at h
  | .cel _, h => by simp [pl1] at h
  | .obj _ _, h => by simp [pl1] at h
  | .scr _, h => by simp [pl1] at h
  | .ins _ _, h => by simp [pl1] at h
theorem eqbL_refl : ∀ (ds : List D), pl1s ds = true → eqbL ds ds = true
  | [], _ => rfl
  | d :: ds, h => by
    simp only [pl1s, Bool.and_eq_true] at h
    simp only [eqbL, eqb_refl d h.1, eqbL_refl ds h.2, Bool.and_true]
end
end Z

set_option Elab.async false
set_option linter.all false
set_option maxRecDepth 100000
set_option maxHeartbeats 4000000
/-! Z36: d[k] of a dict; len, in, ==, isinstance of own objects -/
namespace Z
open PySem PySem.Spec PyProof.Rows L2 RZ
/-! ### d[k] -/
def keyOf : D → Option Key
  | .int i => some (.inl i)
  | .str x => some (.inr x)
  | _ => none
def lookK (k : Key) : List D → List D → Option D
  | a :: ks, d :: ds => if keyOf a = some k then some d else lookK k ks ds
  | _, _ => none
theorem keyOf_D (k : Key) : keyOf (keyD k) = some k := by cases k <;> rfl
theorem lookK_rep {Γ : Gm} {z : Fz} {k : Key} : ∀ {kvs : List (Key × V)} {ds : List D} {d : D}, RepL Γ z ds (kvs.map (·.2)) → lookK k (kvs.map fun p => keyD p.1) ds = some d → ∃ v, valV kvs k = some v ∧ Rep Γ z d v
  | [], ds, d, _, h => by simp [lookK] at h
  | p :: kvs, [], d, _, h => by simp [lookK] at h
  | p :: kvs, a :: ds, d, r, h => by
    simp only [List.map_cons, RepL] at r
    obtain ⟨v, ws, e, r1, r2⟩ := r
    simp only [List.cons.injEq] at e
    obtain ⟨e1, rfl⟩ := e
    simp only [List.map_cons, lookK, keyOf_D] at h
    by_cases hp : p.1 = k
    · rw [if_pos (by rw [hp])] at h
      cases h
      exact ⟨p.2, valV_pos hp, by rw [e1]; exact r1⟩
    · rw [if_neg (by simpa using hp)] at h
      obtain ⟨u, h1, h2⟩ := lookK_rep r2 h
      exact ⟨u, by rw [valV_neg hp]; exact h1, h2⟩
theorem lookK_tup {k : Key} : ∀ {kvs : List (List Key × V)} {ds : List D}, lookK k (kvs.map fun p => D.tup (p.1.map keyD)) ds = none
  | [], ds => rfl
  | p :: kvs, [] => rfl
  | p :: kvs, d :: ds => by
    rw [List.map_cons, lookK, if_neg (by simp [keyOf])]
    exact lookK_tup
def dixD : D → D → Option D
  | .dct ks ds, e => (keyOf e).bind fun k => lookK k ks ds
  | _, _ => none
section
variable {Γ : Gm} {B : Bs} {W : WX} {X : Cx} {a b e : Expr} {f g : Den} {pos : Pos}
theorem keyOf_rep {z : Fz} {e : D} {k : Key} {y : V} (h : keyOf e = some k) (r : Rep Γ z e y) : y = kV k := by
  cases e with
  | int i => cases h; exact Rep.int.mp r
  | str x => cases h; exact Rep.str.mp r
  | _ => cases h
theorem qdix {k : Nat} (hr : Room k X.A) (ha : PE X a (tE Γ B W f)) (hb : PE X b (tE Γ B W g)) (hs : NoSl b := by exact fun _ _ => rfl) : PE X (.Subscript a b pos) (tE Γ B W (zop dixD f g)) := by
  refine PE.imp (pe_dget (by have := hr.un; omega) ha hb hs) fun σ H Q ⟨m, z, rl, h⟩ => ?_
  refine bnd rl h fun z1 d m1 x H1 e1 r1 p1 h1 => bnd r1 h1 fun z2 e m2 y H2 e2 r2 p2 h2 => ?_
  have w1 := Rep.mono e2 d p1
  cases d with
  | dct ks ds =>
    have h2 : Po Γ B W (rpE Γ) σ z2 (ofO ((keyOf e).bind fun k => lookK k ks ds) m2) Q := h2
    cases ek : keyOf e with
    | none => rw [ek] at h2; exact h2.elim
    | some k =>
      rw [ek] at h2
      have h5 : Po Γ B W (rpE Γ) σ z2 (ofO (lookK k ks ds) m2) Q := h2
      cases el : lookK k ks ds with
      | none => rw [el] at h5; exact h5.elim
      | some c =>
        rw [el] at h5
        simp only [Rep] at w1
        obtain ⟨pa, rfl, ⟨kvs, k1, rfl, k3⟩ | ⟨kvs, k0, k1, rfl, k3⟩⟩ := w1
        case inr => rw [lookK_tup] at el; cases el
        obtain ⟨v, h3, h4⟩ := lookK_rep k3 el
        refine ⟨pa, v, rfl, ?_, h5 z2 v H2 (Ext.refl _) r2 h4⟩
        rw [keyOf_rep ek p2, ← h3]
        exact DGet.k (r2.rf.sub _ _ k1)
  | _ => exact h2.elim
/-! ### defs that raise nothing, called by the machine -/
theorem run_quiet {pins : List (Addr × Obj)} {σ : L2.St} {H : Hp} {s : Shared} {A : Around} {k : Nat} {f0 : Addr} {fd : FuncData} {ps : List Str} {sp : Sp} {us : List Value} {ws : List V} {Q : VK} {E : Value → Shared → Prop} (hA : A.guards = some []) (hr : Room k A) (e0 : Env0 X.prog X.w X.K X.mg X.base A X.stack s H)
    (F : FnG X.prog X.w X.K X.mg X.base k f0 fd ps sp) (bd : Binds X.K fd ps []) (I : Inv X pins σ H s) (r : Vals ws us) (q : sp ws H Q (fun _ _ _ => False)) : wpAny (model X.prog X.w) A (call (.ref f0) us) (EP X pins σ Q) E s := by
  have hl : (us ++ []).length = ps.length := by
    have h1 := F.len _ _ _ _ q
    have h2 := r.length
    rw [List.append_nil]
    omega
  have b0 := bd s us I.kIn hl
  rw [List.append_nil] at b0
  refine wpAny_call (codeAny_mono (F.run A X.stack s H ⟨us, []⟩ us ws Q (fun _ _ _ => False) hA hr e0 b0 r q) fun r s' hq => ?_)
  match r, hq with
  | .error e, hq =>
    obtain ⟨_, _, _, _, _, _, _, _, _, _, _, _, hf⟩ := hq
    exact hf.elim
  | .ok (.ret u), hq => exact I.after hq
/-- an own method by its name, as the machine calls it -/
structure Spc (Γ : Gm) (P : Program) (w : World) (mg : Str → Option Value) (base : Heap) (c : Nat) (n : Str) (k j : Nat) (φ : Fn) : Prop where
  o : OwnC Γ c
  ex : ∃ g fd ps, PySem.W.findIn Γ.K (.ref (Γ.own c).1) n = some (some (.ref g)) ∧ PySem.W.isFn Γ.K (.ref g) = true ∧ FnG P w Γ.K mg base k g fd ps (spZ Γ j φ) ∧ Binds Γ.K fd ps []
def lenR (m : M) (r : RF) : R D := match r with
  | .ok (.int i) S => if decide (0 ≤ i ∧ i.natAbs < 1000000) = true then .ok (.int i) ⟨m.e, S⟩ else .bad
  | _ => .bad
def zlenO (c : Nat) (φ : Fn) (f : Den) : Den := fun m => (f m).bind fun d m1 => match d with
  | .ins k ds => if k = c then lenR m1 (φ [.ins k ds] m1.S) else .bad
  | _ => .bad
theorem lenBack_of {X : Cx} {pins : List (Addr × Obj)} {σ : L2.St} {Q : VK} {u : Value} {s' : Shared} (h : EP X pins σ (fun z H' => ∃ i : Int, z = .int i ∧ (0 ≤ i ∧ i < 2 ^ 63) ∧ Q (.int i) H') u s') : PySem.W.LenBack (EP X pins σ Q) u s' := by
  obtain ⟨y, H', I', ry, i, ei, hi, q⟩ := h
  subst ei
  obtain ⟨t, rfl⟩ := (show ∃ t, u = Value.int i t from ry)
  exact ⟨hi, .int i, H', I'.tok _, ⟨_, rfl⟩, q⟩
theorem qlenO {c k k' : Nat} {φ : Fn} {p : Pos} (S : Spc Γ X.prog X.w X.mg X.base c "__len__" k 1 φ) (hr : Room k' X.A) (hk : k + 1 ≤ k') (hgd : X.A.guards = some []) (M : Bn X.mg) (ha : PE X e (tE Γ B W f)) (hK : X.K = Γ.K := by rfl) (hg : Gl X "len" := by rfl) (na : starEach [e] X.env = (false, eval e X.env) :: starEach [] X.env := by rfl) :
    PE X (.Call (.Name "len" p) [e] [] pos) (tE Γ B W (zlenO c φ f)) := by
  obtain ⟨o, g0, fd, ps, hs, hf, F, bd⟩ := S
  rw [← hK] at hs hf F bd
  refine ⟨fun pins s σ H Q I ⟨m, z, rl, h⟩ => ?_⟩
  have hA : tE Γ B W f σ H fun v H1 => ∃ a dx vs, v = .ref a ∧ SlX.Slt H1 a (Γ.own c).1 dx vs ∧ spZ Γ 1 φ [.ref a] H1 (fun z H' => ∃ i : Int, z = .int i ∧ (0 ≤ i ∧ i < 2 ^ 63) ∧ Q (.int i) H') (fun _ _ _ => False) := by
    refine bnd rl h fun z1 d m1 x H1 e1 r1 p1 h1 => ?_
    cases d with
    | ins j ds =>
      by_cases hj : j = c
      · subst hj
        have h1 : Po Γ B W (rpE Γ) σ z1 (if j = j then lenR m1 (φ [.ins j ds] m1.S) else .bad) Q := h1
        rw [if_pos rfl] at h1
        obtain ⟨a, dx, vs, rfl, hs, _⟩ := ins_slt o r1 p1
        refine ⟨a, dx, _, rfl, hs, rfl, z1, [.ins j ds], m1.S, r1.rf, .cons p1 .nil, ?_⟩
        cases e0 : φ [.ins j ds] m1.S with
        | bad => rw [e0] at h1; exact h1.elim
        | exc c d S => rw [e0] at h1; exact h1.elim
        | ok d S =>
          rw [e0] at h1
          cases d with
          | int i =>
            have h1 : Po Γ B W (rpE Γ) σ z1 (if decide (0 ≤ i ∧ i.natAbs < 1000000) = true then .ok (.int i) ⟨m1.e, S⟩ else .bad) Q := h1
            split at h1
            · rename_i hc
              have hc := of_decide_eq_true hc
              exact fun z' v H' st f r => ⟨i, Rep.int.mp r, ⟨hc.1, by omega⟩, h1 z' _ H' st.ext (r1.call f st) (Rep.int.mpr rfl)⟩
            · exact h1.elim
          | _ => exact h1.elim
      · have h1 : Po Γ B W (rpE Γ) σ z1 (if j = c then lenR m1 (φ [.ins j ds] m1.S) else .bad) Q := h1
        rw [if_neg hj] at h1
        exact h1.elim
    | _ => exact h1.elim
  refine Call_ (ld_blt I hg (M "len" (by decide)) PySem.boot_len ?_)
  refine PyProof.Rows.callWith_builtin1 (PyProof.Rows.args_cons (thn (ha.run pins s σ H _ I hA) fun u s1 ⟨x, H1, I1, rx, a, dx, vs, ex, hs1, q⟩ => PyProof.Rows.args_nil ?_) na) na rfl
  subst ex
  obtain rfl : u = Value.ref a := rx
  obtain ⟨sl, od, _, J, _⟩ := SlX.slt_inst I1 hs1
  obtain ⟨m', Fr⟩ := I1.fr
  exact PySem.W.len_K Fr I1.ok.mod.kin J hs hf (wpAny_mono (run_quiet (us := [.ref a]) (ws := [.ref a]) (A := X.A.in1) hgd (hr.mono hk).in1 I1.env0.in1 F bd I1 (.cons rfl .nil) q) (fun v s' h => lenBack_of h) fun _ _ h => h)
/-! ### x in y -/
def boolR (n : Bool) (m : M) (r : RF) : R D := match r with
  | .ok (.bl b) S => .ok (.bl (xor n b)) ⟨m.e, S⟩
  | _ => .bad
def zinO (n : Bool) (c : Nat) (φ : Fn) (f g : Den) : Den := fun m => (f m).bind fun d m1 => (g m1).bind fun e m2 => match e with
  | .ins k ds => if k = c then boolR n m2 (φ [.ins k ds, d] m2.S) else .bad
  | _ => .bad
def rInO (Γ : Gm) (c : Nat) (n : Bool) (φ : Fn) : R2 := fun x y H Q => ∃ a dx vs, y = .ref a ∧ SlX.Slt H a (Γ.own c).1 dx vs ∧ spZ Γ 2 φ [.ref a, x] H (fun z H' => ∃ b, z = .bl b ∧ Q (.bl (xor n b)) H') (fun _ _ _ => False)
theorem op_inO {c k k' : Nat} {φ : Fn} (S : Spc Γ X.prog X.w X.mg X.base c "__contains__" k 2 φ) (hr : Room k' X.A) (hk : k ≤ k') (hgd : X.A.guards = some []) (hK : X.K = Γ.K) : OpR X (compareOp .In) (rInO Γ c false φ) ∧ OpR X (compareOp .NotIn) (rInO Γ c true φ) := by
  obtain ⟨o, g0, fd, ps, hs, hf, F, bd⟩ := S
  rw [← hK] at hs hf F bd
  constructor
  · intro pins s σ H x y v u Q I rx ry h
    obtain ⟨a, dx, vs, rfl, hs1, q⟩ := h
    obtain rfl : u = Value.ref a := ry
    obtain ⟨sl, od, _, J, _⟩ := SlX.slt_inst I hs1
    obtain ⟨m', Fr⟩ := I.fr
    refine PySem.W.in_K Fr I.ok.mod.kin J hs hf (wpAny_mono (run_quiet (us := [.ref a, v]) (ws := [.ref a, x]) (A := X.A) hgd (hr.mono hk) I.env0 F bd I (.cons rfl (.cons rx .nil)) q) (fun w s' h => ?_) fun _ _ h => h)
    obtain ⟨y, H', I', ry, b, eb, q⟩ := h
    subst eb
    cases (show w = Value.bool b from ry)
    refine wpAny_truthy_bool ⟨.bl b, H', I', rfl, ?_⟩
    rw [Bool.false_xor] at q
    exact q
  · intro pins s σ H x y v u Q I rx ry h
    obtain ⟨a, dx, vs, rfl, hs1, q⟩ := h
    obtain rfl : u = Value.ref a := ry
    obtain ⟨sl, od, _, J, _⟩ := SlX.slt_inst I hs1
    obtain ⟨m', Fr⟩ := I.fr
    refine PySem.W.notIn_K Fr I.ok.mod.kin J hs hf (wpAny_mono (run_quiet (us := [.ref a, v]) (ws := [.ref a, x]) (A := X.A) hgd (hr.mono hk) I.env0 F bd I (.cons rfl (.cons rx .nil)) q) (fun w s' h => ?_) fun _ _ h => h)
    obtain ⟨y, H', I', ry, b, eb, q⟩ := h
    subst eb
    cases (show w = Value.bool b from ry)
    refine wpAny_truthy_bool ⟨.bl (!b), H', I', rfl, ?_⟩
    rw [Bool.true_xor] at q
    exact q
theorem inO_conv {c : Nat} {n : Bool} {φ : Fn} {σ : L2.St} {H : Hp} {Q : VK} (o : OwnC Γ c) (hz : tE Γ B W (zinO n c φ f g) σ H Q) : tOp (rInO Γ c n φ) (tE Γ B W f) (tE Γ B W g) σ H Q := by
  obtain ⟨m, z, rl, h⟩ := hz
  refine bnd rl h fun z1 d m1 x H1 e1 r1 p1 h1 => bnd r1 h1 fun z2 e m2 y H2 e2 r2 p2 h2 => ?_
  have w1 := Rep.mono e2 d p1
  cases e with
  | ins j ds =>
    by_cases hj : j = c
    · subst hj
      have h2 : Po Γ B W (rpE Γ) σ z2 (if j = j then boolR n m2 (φ [.ins j ds, d] m2.S) else .bad) Q := h2
      rw [if_pos rfl] at h2
      obtain ⟨a, dx, vs, rfl, hs, _⟩ := ins_slt o r2 p2
      refine ⟨a, dx, _, rfl, hs, rfl, z2, [.ins j ds, d], m2.S, r2.rf, .cons p2 (.cons w1 .nil), ?_⟩
      cases e0 : φ [.ins j ds, d] m2.S with
      | bad => rw [e0] at h2; exact h2.elim
      | exc c d S => rw [e0] at h2; exact h2.elim
      | ok d S =>
        rw [e0] at h2
        cases d with
        | bl b => exact fun z' v H' st f r => ⟨b, Rep.bl.mp r, h2 z' _ H' st.ext (r2.call f st) (Rep.bl.mpr rfl)⟩
        | _ => exact h2.elim
    · have h2 : Po Γ B W (rpE Γ) σ z2 (if j = c then boolR n m2 (φ [.ins j ds, d] m2.S) else .bad) Q := h2
      rw [if_neg hj] at h2
      exact h2.elim
  | _ => exact h2.elim
theorem qinO {c k k' : Nat} {φ : Fn} (S : Spc Γ X.prog X.w X.mg X.base c "__contains__" k 2 φ) (hr : Room k' X.A) (hk : k ≤ k') (hgd : X.A.guards = some []) (ha : PE X a (tE Γ B W f)) (hb : PE X b (tE Γ B W g)) (hK : X.K = Γ.K := by rfl) (hn : behindInMarks .In b = false := by rfl) :
    PE X (.Compare a [.In] [b] pos) (tE Γ B W (zinO false c φ f g)) := PE.imp (pe_cmpR (op_inO S hr hk hgd hK).1 ha hb hn) fun σ H Q hz => inO_conv S.o hz
theorem tinO {c k k' : Nat} {φ : Fn} (S : Spc Γ X.prog X.w X.mg X.base c "__contains__" k 2 φ) (hr : Room k' X.A) (hk : k ≤ k') (hgd : X.A.guards = some []) (ha : PE X a (tE Γ B W f)) (hb : PE X b (tE Γ B W g)) (hK : X.K = Γ.K := by rfl) (hn : behindInMarks .In b = false := by rfl) :
    PT X (.Compare a [.In] [b] pos) (tT Γ B W (toB (zinO false c φ f g))) := PT.imp (pt_cmpR (op_inO S hr hk hgd hK).1 ha hb hn) fun σ H Q hz => inO_conv S.o (toB_conv hz)
theorem qninO {c k k' : Nat} {φ : Fn} (S : Spc Γ X.prog X.w X.mg X.base c "__contains__" k 2 φ) (hr : Room k' X.A) (hk : k ≤ k') (hgd : X.A.guards = some []) (ha : PE X a (tE Γ B W f)) (hb : PE X b (tE Γ B W g)) (hK : X.K = Γ.K := by rfl) (hn : behindInMarks .NotIn b = false := by rfl) :
    PE X (.Compare a [.NotIn] [b] pos) (tE Γ B W (zinO true c φ f g)) := PE.imp (pe_cmpR (op_inO S hr hk hgd hK).2 ha hb hn) fun σ H Q hz => inO_conv S.o hz
theorem tninO {c k k' : Nat} {φ : Fn} (S : Spc Γ X.prog X.w X.mg X.base c "__contains__" k 2 φ) (hr : Room k' X.A) (hk : k ≤ k') (hgd : X.A.guards = some []) (ha : PE X a (tE Γ B W f)) (hb : PE X b (tE Γ B W g)) (hK : X.K = Γ.K := by rfl) (hn : behindInMarks .NotIn b = false := by rfl) :
    PT X (.Compare a [.NotIn] [b] pos) (tT Γ B W (toB (zinO true c φ f g))) := PT.imp (pt_cmpR (op_inO S hr hk hgd hK).2 ha hb hn) fun σ H Q hz => inO_conv S.o (toB_conv hz)
end
end Z

set_option Elab.async false
set_option linter.all false
set_option maxRecDepth 100000
set_option maxHeartbeats 4000000
/-! Z37: own ==, !=; isinstance(x, an own class) -/
namespace Z
open PySem PySem.Spec PyProof.Rows L2 RZ
section
variable {prog : Program} {w : World} {A : Around} {E : Value → Shared → Prop} {s : Shared} {K : PySem.W.Frag} {x C g : Addr} {ox : Obj} {od : Option Obj} {b tb : Value} {Q : Value → Shared → Prop}
theorem ifBoundB {M : Model} {id : String} {name : Str} {args : List Value} {Q : Option Value → Shared → Prop} (X : K.In s.heap) (I : PySem.W.InstAt s.heap x ox C od) (hs : PySem.W.findIn K (.ref C) name = some (some (.builtin id))) (hb : bindSpecial (.builtin id) (.ref x) = pure (.builtin id, [.ref x]))
    (h : wpAny M A (call (.builtin id) (.ref x :: args)) (fun v => Q (some v)) E s) : wpAny M A (callSpecialIfBound? (.ref x) name args) Q E s := by
  simp only [callSpecialIfBound?, bindSpecialIfBound?]
  refine wpAny_holding (wpAny_bind (wpAny_bind (wpAny_bind (I.type.here ((PySem.W.looks_findIn X hs).here ?_)))))
  refine wpAny_bind (PySem.wpAny_askSetting (wpAny_ite ?_))
  have fin : wpAny M A (call (.builtin id) ([.ref x] ++ args) >>= fun v => pure (some v)) Q E s := wpAny_bind (wpAny_mono h (fun v s' h' => wpAny_pure h') fun _ _ h' => h')
  simp only [hb]
  split
  · exact wpAny_bind (wpAny_pure (wpAny_pure (by exact fin)))
  · exact wpAny_tryCatch (wpAny_bind (wpAny_pure (wpAny_pure (by exact fin))))
theorem ne_own (hu : A.units + 1 < cLine) (X : K.In s.heap) (I : PySem.W.InstAt s.heap x ox C od) (hb : PySem.W.Looks (model prog w) s.heap (typeOf b) tb) (hn : PySem.W.notFirst K C tb = true)
    (hne : PySem.W.findIn K (.ref C) "__ne__" = some (some (.builtin "object.__ne__"))) (heq : PySem.W.findIn K (.ref C) "__eq__" = some (some (.ref g))) (hf : PySem.W.isFn K (.ref g) = true) (ho : PySem.W.subIn K (.ref C) (.type "object") = some true)
    (h : wpAny (model prog w) A.in1 (call (.ref g) [.ref x, b]) (fun v s' => ∃ k, v = .bool k ∧ Q (.bool (!k)) s') E s) : wpAny (model prog w) A (richCompare .NotEq (.ref x) b) Q E s := by
  have one : wpAny (model prog w) A (tryCompare (.ref x) (cmpInfo .NotEq).2.1 b) (fun r s' => ∃ v, r = some v ∧ Q v s') E s := by
    unfold tryCompare
    refine wpAny_bind (ifBoundB X I hne (F.cmp_object.ne.bind _) (wpAny_call (codeAny_call_builtin F.cmp_object.ne.plain F.cmpEntry_ne (PySem.W.check_slot F.cmpKind_ne F.cmpSplit_ne (I.type.andThen (PySem.W.looks_subIn X ho)) (F.cmpArgs_ne _ _) ?_))))
    unfold Builtin.«object.__ne__»
    repeat (first
      | with_reducible refine wpAny_cRoomFor hu ?_
      | (refine wpAny_bind (m := callSpecialIfBound? (.ref x) (Str.ofString "__eq__") [b])
          (PySem.W.ifBound_K X I heq hf (wpAny_mono h (fun r s' hr => by
            obtain ⟨k, rfl, hq⟩ := hr
            repeat (first | exact ⟨_, rfl, hq⟩ | exact wpAny_pure ⟨_, rfl, hq⟩ | exact wpAny_truthy_bool ⟨_, rfl, hq⟩ | (refine wpAny_bind (m := truthy (.bool _)) (wpAny_truthy_bool ?_)) | wp_step)) fun _ _ e => e)))
      | wp_step)
  unfold richCompare
  simp only [oneThing_ref]
  refine wpAny_holding (wpAny_bind (wpAny_cRoomFor (Nat.lt_of_succ_lt hu) ?_))
  refine wpAny_bind (I.type.here (wpAny_bind (hb.here ?_)))
  split
  · rename_i q
    have e : PySem.W.subIn K tb (.ref C) = some false := by
      rcases Bool.or_eq_true_iff.mp hn with e | e
      · rw [beq_iff_eq.mp e] at q; simp at q
      · exact beq_iff_eq.mp e
    refine wpAny_bind ((PySem.W.looks_subIn X e).here ?_)
    simp only [Bool.false_eq_true, if_false]
    refine wpAny_bind (wpAny_mono one (fun r s' z => ?_) fun _ _ e => e)
    obtain ⟨v, rfl, hq⟩ := z
    exact wpAny_pure hq
  · refine wpAny_bind (wpAny_pure ?_)
    simp only [Bool.false_eq_true, if_false]
    refine wpAny_bind (wpAny_mono one (fun r s' z => ?_) fun _ _ e => e)
    obtain ⟨v, rfl, hq⟩ := z
    exact wpAny_pure hq
end
/-- what an own class with == must have -/
structure EqC (Γ : Gm) (P : Program) (w : World) (mg : Str → Option Value) (base : Heap) (c k : Nat) (φ : Fn) : Prop where
  s : Spc Γ P w mg base c "__eq__" k 2 φ
  ne : PySem.W.findIn Γ.K (.ref (Γ.own c).1) "__ne__" = some (some (.builtin "object.__ne__"))
  ob : PySem.W.subIn Γ.K (.ref (Γ.own c).1) (.type "object") = some true
  nf : ∀ T ∈ tysZ, PySem.W.notFirst Γ.K (Γ.own c).1 (.type T) = true
def okO : D → Bool
  | .cel _ => false
  | .obj _ _ => false
  | .scr _ => false
  | _ => true
/-- what may stand on the right -/
def rhsO (c : Nat) : D → Bool
  | .ins j _ => decide (j = c)
  | e => okO e
def zeqO (n : Bool) (c : Nat) (φ : Fn) (f g : Den) : Den := fun m => (f m).bind fun d m1 => (g m1).bind fun e m2 => match d with
  | .ins k ds => if k = c ∧ rhsO c e = true then boolR n m2 (φ [.ins k ds, e] m2.S) else .bad
  | _ => .bad
def rEqO (Γ : Gm) (c : Nat) (n : Bool) (φ : Fn) : R2 := fun x y H Q => ∃ a dx vs, x = .ref a ∧ SlX.Slt H a (Γ.own c).1 dx vs ∧ ((∃ T ∈ tysZ, TyX Γ.K H y (.type T)) ∨ ∃ b dy us, y = .ref b ∧ SlX.Slt H b (Γ.own c).1 dy us) ∧ spZ Γ 2 φ [.ref a, y] H (fun z H' => ∃ b, z = .bl b ∧ Q (.bl (xor n b)) H') (fun _ _ _ => False)
section
variable {Γ : Gm} {B : Bs} {W : WX} {X : Cx} {a b e : Expr} {f g : Den} {pos : Pos}
theorem ty_looks {pins : List (Addr × Obj)} {σ : L2.St} {H : Hp} {s : Shared} {c : Nat} {y : V} {u : Value} (I : Inv X pins σ H s) (ry : RelV y u) (hK : X.K = Γ.K) (nf : ∀ T ∈ tysZ, PySem.W.notFirst Γ.K (Γ.own c).1 (.type T) = true)
    (h : (∃ T ∈ tysZ, TyX Γ.K H y (.type T)) ∨ ∃ b dy us, y = .ref b ∧ SlX.Slt H b (Γ.own c).1 dy us) : ∃ tb, PySem.W.Looks (model X.prog X.w) s.heap (typeOf u) tb ∧ PySem.W.notFirst X.K (Γ.own c).1 tb = true := by
  rcases h with ⟨T, hT, ty⟩ | ⟨b, dy, us, rfl, hs⟩
  · rw [← hK] at ty
    obtain ⟨P, Z, p, hx⟩ := kit_of I ry ty
    exact ⟨_, Z.ty _ _ I.kIn p, by rw [hK]; exact nf T hT⟩
  · obtain rfl : u = Value.ref b := ry
    obtain ⟨sl, od, _, J, _⟩ := SlX.slt_inst I hs
    exact ⟨_, J.type, by unfold PySem.W.notFirst; simp⟩
theorem op_eqO {c k k' : Nat} {φ : Fn} (S : EqC Γ X.prog X.w X.mg X.base c k φ) (hr : Room k' X.A) (hk : k + 1 ≤ k') (hgd : X.A.guards = some []) (hK : X.K = Γ.K) : OpR X (compareOp .Eq) (rEqO Γ c false φ) ∧ OpR X (compareOp .NotEq) (rEqO Γ c true φ) := by
  obtain ⟨⟨o, g0, fd, ps, hs, hf, F, bd⟩, hne, hob, nf⟩ := S
  rw [← hK] at hs hf F bd hne hob
  have hu : X.A.units + 1 < cLine := by have := hr.un; omega
  constructor
  · intro pins s σ H x y v u Q I rx ry h
    obtain ⟨a, dx, vs, rfl, hs1, ht, q⟩ := h
    obtain rfl : v = Value.ref a := rx
    obtain ⟨sl, od, _, J, _⟩ := SlX.slt_inst I hs1
    obtain ⟨m', Fr⟩ := I.fr
    obtain ⟨tb, h1, h2⟩ := ty_looks I ry hK nf ht
    refine PySem.W.cmp_K (op := .Eq) (tb := tb) (by omega) Fr I.ok.mod.kin J h1 h2 hs hf (wpAny_mono (run_quiet (us := [.ref a, u]) (ws := [.ref a, y]) (A := X.A) hgd (hr.mono (by omega)) I.env0 F bd I (.cons rfl (.cons ry .nil)) q) (fun w s' h => ?_) fun _ _ h => h)
    obtain ⟨y, H', I', ry, b, eb, q⟩ := h
    subst eb
    cases (show w = Value.bool b from ry)
    rw [Bool.false_xor] at q
    exact ⟨.bl b, H', I', rfl, q⟩
  · intro pins s σ H x y v u Q I rx ry h
    obtain ⟨a, dx, vs, rfl, hs1, ht, q⟩ := h
    obtain rfl : v = Value.ref a := rx
    obtain ⟨sl, od, _, J, _⟩ := SlX.slt_inst I hs1
    obtain ⟨tb, h1, h2⟩ := ty_looks I ry hK nf ht
    refine ne_own hu I.kIn J h1 h2 hne hs hf hob (wpAny_mono (run_quiet (us := [.ref a, u]) (ws := [.ref a, y]) (A := X.A.in1) hgd (hr.mono hk).in1 I.env0.in1 F bd I (.cons rfl (.cons ry .nil)) q) (fun w s' h => ?_) fun _ _ h => h)
    obtain ⟨y, H', I', ry, b, eb, q⟩ := h
    subst eb
    cases (show w = Value.bool b from ry)
    rw [Bool.true_xor] at q
    exact ⟨b, rfl, .bl (!b), H', I', rfl, q⟩
theorem tyq_of {z : Fz} {m : M} {σ : L2.St} {H : Hp} {d : D} {v : V} (r1 : Rl Γ B z m σ H) (p1 : Rep Γ z d v) (h : okO d = true) (hi : ∀ c ds, d ≠ .ins c ds) : ∃ T ∈ tysZ, TyX Γ.K H v (.type T) := by
  cases d with
  | obj n ds => cases h
  | scr _ => cases h
  | ins c ds => exact absurd rfl (hi c ds)
  | cel _ => cases h
  | non => rw [Rep.non.mp p1]; exact ⟨"NoneType", by decide, .base .non⟩
  | bl k => rw [Rep.bl.mp p1]; exact ⟨"bool", by decide, .base (.bl k)⟩
  | int k => rw [Rep.int.mp p1]; exact ⟨"int", by decide, .base (.int k)⟩
  | str k => rw [Rep.str.mp p1]; exact ⟨"str", by decide, .base (.str k)⟩
  | tup ds =>
    obtain ⟨a, us, rfl, k1, k2⟩ := Rep.tup.mp p1
    exact ⟨"tuple", by decide, tyX_tup (r1.sqT k1)⟩
  | lst ds =>
    obtain ⟨a, us, rfl, k1, k2⟩ := Rep.lst.mp p1
    exact ⟨"list", by decide, .base (.lst (r1.rf.sub _ _ k1))⟩
  | dct ks ds =>
    simp only [Rep] at p1
    obtain ⟨a, rfl, ⟨kvs, k1, k2⟩ | ⟨kvs, k0, k1, k2⟩⟩ := p1
    · exact ⟨"dict", by decide, .base (.dK (r1.rf.sub _ _ k1))⟩
    · exact ⟨"dict", by decide, .base (.dT (r1.rf.sub _ _ k1))⟩
theorem eqO_conv {c : Nat} {n : Bool} {φ : Fn} {σ : L2.St} {H : Hp} {Q : VK} (o : OwnC Γ c) (hz : tE Γ B W (zeqO n c φ f g) σ H Q) : tOp (rEqO Γ c n φ) (tE Γ B W f) (tE Γ B W g) σ H Q := by
  obtain ⟨m, z, rl, h⟩ := hz
  refine bnd rl h fun z1 d m1 x H1 e1 r1 p1 h1 => bnd r1 h1 fun z2 e m2 y H2 e2 r2 p2 h2 => ?_
  have w1 := Rep.mono e2 d p1
  have fin : ∀ {j : Nat} {ds : List D}, d = .ins j ds → j = c → ((∃ T ∈ tysZ, TyX Γ.K H2 y (.type T)) ∨ ∃ b dy us, y = .ref b ∧ SlX.Slt H2 b (Γ.own c).1 dy us) → Po Γ B W (rpE Γ) σ z2 (boolR n m2 (φ [d, e] m2.S)) Q → rEqO Γ c n φ x y H2 Q := fun {j ds} ed ej ht h3 => by
    subst ed
    subst ej
    obtain ⟨a, dx, vs, rfl, hs, _⟩ := ins_slt o r2 w1
    refine ⟨a, dx, _, rfl, hs, ht, rfl, z2, [.ins j ds, e], m2.S, r2.rf, .cons w1 (.cons p2 .nil), ?_⟩
    cases e0 : φ [.ins j ds, e] m2.S with
    | bad => rw [e0] at h3; exact h3.elim
    | exc c d S => rw [e0] at h3; exact h3.elim
    | ok d S =>
      rw [e0] at h3
      cases d with
      | bl b => exact fun z' v H' st f r => ⟨b, Rep.bl.mp r, h3 z' _ H' st.ext (r2.call f st) (Rep.bl.mpr rfl)⟩
      | _ => exact h3.elim
  cases d with
  | ins j ds =>
    have h2 : Po Γ B W (rpE Γ) σ z2 (if j = c ∧ rhsO c e = true then boolR n m2 (φ [.ins j ds, e] m2.S) else .bad) Q := h2
    split at h2
    · rename_i hc
      refine fin rfl hc.1 ?_ h2
      have hr := hc.2
      unfold rhsO at hr
      split at hr
      · rename_i j' es
        have hj' := of_decide_eq_true hr
        subst hj'
        obtain ⟨b, dy, us, rfl, hs, _⟩ := ins_slt o r2 p2
        exact .inr ⟨b, dy, _, rfl, hs⟩
      · rename_i hni
        exact .inl (tyq_of r2 p2 hr fun c ds => hni c ds)
    · exact h2.elim
  | _ => exact h2.elim
theorem qeqO {c k k' : Nat} {φ : Fn} (S : EqC Γ X.prog X.w X.mg X.base c k φ) (hr : Room k' X.A) (hk : k + 1 ≤ k') (hgd : X.A.guards = some []) (ha : PE X a (tE Γ B W f)) (hb : PE X b (tE Γ B W g)) (hK : X.K = Γ.K := by rfl) (hn : behindInMarks .Eq b = false := by rfl) :
    PE X (.Compare a [.Eq] [b] pos) (tE Γ B W (zeqO false c φ f g)) := PE.imp (pe_cmpR (op_eqO S hr hk hgd hK).1 ha hb hn) fun σ H Q hz => eqO_conv S.s.o hz
theorem teqO {c k k' : Nat} {φ : Fn} (S : EqC Γ X.prog X.w X.mg X.base c k φ) (hr : Room k' X.A) (hk : k + 1 ≤ k') (hgd : X.A.guards = some []) (ha : PE X a (tE Γ B W f)) (hb : PE X b (tE Γ B W g)) (hK : X.K = Γ.K := by rfl) (hn : behindInMarks .Eq b = false := by rfl) :
    PT X (.Compare a [.Eq] [b] pos) (tT Γ B W (toB (zeqO false c φ f g))) := PT.imp (pt_cmpR (op_eqO S hr hk hgd hK).1 ha hb hn) fun σ H Q hz => eqO_conv S.s.o (toB_conv hz)
theorem qneO {c k k' : Nat} {φ : Fn} (S : EqC Γ X.prog X.w X.mg X.base c k φ) (hr : Room k' X.A) (hk : k + 1 ≤ k') (hgd : X.A.guards = some []) (ha : PE X a (tE Γ B W f)) (hb : PE X b (tE Γ B W g)) (hK : X.K = Γ.K := by rfl) (hn : behindInMarks .NotEq b = false := by rfl) :
    PE X (.Compare a [.NotEq] [b] pos) (tE Γ B W (zeqO true c φ f g)) := PE.imp (pe_cmpR (op_eqO S hr hk hgd hK).2 ha hb hn) fun σ H Q hz => eqO_conv S.s.o hz
theorem tneO {c k k' : Nat} {φ : Fn} (S : EqC Γ X.prog X.w X.mg X.base c k φ) (hr : Room k' X.A) (hk : k + 1 ≤ k') (hgd : X.A.guards = some []) (ha : PE X a (tE Γ B W f)) (hb : PE X b (tE Γ B W g)) (hK : X.K = Γ.K := by rfl) (hn : behindInMarks .NotEq b = false := by rfl) :
    PT X (.Compare a [.NotEq] [b] pos) (tT Γ B W (toB (zeqO true c φ f g))) := PT.imp (pt_cmpR (op_eqO S hr hk hgd hK).2 ha hb hn) fun σ H Q hz => eqO_conv S.s.o (toB_conv hz)
/-! ### isinstance(x, an own class) -/
structure IsO (Γ : Gm) (mg : Str → Option Value) (x : Str) (c : Nat) : Prop where
  o : OwnC Γ c
  i : SlX.SIsi Γ.K (Γ.own c).1
  at_ : mg x = some (.ref (Γ.own c).1)
  yes : PySem.W.kitOne Γ.K (.ref (Γ.own c).1) (.ref (Γ.own c).1) = some true
  no : ∀ T ∈ tysZ, PySem.W.kitOne Γ.K (.type T) (.ref (Γ.own c).1) = some false
def isoD_ (c : Nat) : D → Option D
  | .ins k _ => if k = c then some (.bl true) else none
  | d => if okO d = true then some (.bl false) else none
def ziso (c : Nat) (f : Den) : Den := fun m => (f m).bind fun d m1 => ofO (isoD_ c d) m1
theorem qiso {c : Nat} {x : Str} {p p2 : Pos} (M : Bn X.mg) (I : IsO Γ X.mg x c) (ha : PE X e (tE Γ B W f)) (hK : X.K = Γ.K := by rfl) (hg : Gl X "isinstance" := by rfl) (hg2 : Gl X x := by rfl) (hdb : (x == ("__debug__" : Str)) = false := by decide)
    (he : starEach [e, .Name x p2] X.env = (false, eval e X.env) :: starEach [.Name x p2] X.env := by rfl) (he2 : starEach [.Name x p2] X.env = (false, eval (.Name x p2) X.env) :: starEach [] X.env := by rfl) (hpl : (backTo pos (starEach [.Name x p2] X.env)).any (·.1) = false := by rfl) :
    PE X (.Call (.Name "isinstance" p) [e, .Name x p2] [] pos) (tE Γ B W (ziso c f)) := by
  refine PE.imp (pe_callB (CallR.or call_isi (SlX.call_isiSl (.ref (Γ.own c).1))) hg (M _ (by decide)) (by rfl) (pa_cons ha (pa_cons (pe_glob (v := .ref (Γ.own c).1) hg2 I.at_ rfl hdb) pa_nil he2) he) (by decide) (by decide) he hpl) fun σ H Q ⟨m, z, rl, h⟩ => ?_
  refine bnd rl h fun z1 d m1 v H1 e1 r1 p1 h1 => ?_
  rw [hK]
  have h9 : Po Γ B W (rpE Γ) σ z1 (ofO (isoD_ c d) m1) Q := h1
  clear h1
  unfold isoD_ at h9
  split at h9
  · split at h9
    · rename_i hk
      subst hk
      obtain ⟨a, dx, vs, rfl, hs, _⟩ := ins_slt I.o r1 p1
      exact .inr ⟨a, _, dx, _, .ref (Γ.own _).1, true, rfl, rfl, fun w hw => hw, hs, I.o.cls, I.i, I.yes, h9 z1 _ H1 (Ext.refl _) r1 (Rep.bl.mpr rfl)⟩
    · exact h9.elim
  · rename_i hni
    split at h9
    · rename_i hok
      obtain ⟨T, hT, ty⟩ := tyq_of r1 p1 hok fun c ds => hni c ds
      exact .inl ⟨v, .ref (Γ.own c).1, .type T, .ref (Γ.own c).1, false, rfl, .own _, ty, I.no T hT, h9 z1 _ H1 (Ext.refl _) r1 (Rep.bl.mpr rfl)⟩
    · exact h9.elim
end
end Z

set_option Elab.async false
set_option linter.all false
set_option maxRecDepth 100000
set_option maxHeartbeats 4000000
/-! Z38: the head's facts of own classes, further; rules -/
namespace Z
open PySem PySem.Spec PyProof.Rows L2 RZ
def ownB2 (K : PySem.W.Frag) (x : Str) : Bool := He.eqO (PySem.W.findIn K (.ref (gC K x)) "__ne__") (some (some (.builtin "object.__ne__"))) && (decide (PySem.W.subIn K (.ref (gC K x)) (.type "object") = some true) && ((tysZ.all fun T => PySem.W.notFirst K (gC K x) (.type T))
  && (He.eqO (PySem.W.findIn K (.ref (gC K x)) "__class__") (some (some (.builtin "object.__class__"))) && (He.eqO (PySem.W.specialIn K (.builtin "object.__class__") "__get__") (some (some (.builtin "getset_descriptor.__get__"))) && (decide (PySem.W.takesIn K (.builtin "object.__class__") = some true)
  && (decide (PySem.W.mroIn K (gC K x) (.type "object") = some true) && (decide (PySem.W.kitOne K (.ref (gC K x)) (.ref (gC K x)) = some true) && tysZ.all fun T => decide (PySem.W.kitOne K (.type T) (.ref (gC K x)) = some false))))))))
structure Own2 (K : PySem.W.Frag) (x : Str) : Prop where
  ne : PySem.W.findIn K (.ref (gC K x)) "__ne__" = some (some (.builtin "object.__ne__"))
  ob : PySem.W.subIn K (.ref (gC K x)) (.type "object") = some true
  nf : ∀ T ∈ tysZ, PySem.W.notFirst K (gC K x) (.type T) = true
  si : SlX.SIsi K (gC K x)
  yes : PySem.W.kitOne K (.ref (gC K x)) (.ref (gC K x)) = some true
  no : ∀ T ∈ tysZ, PySem.W.kitOne K (.type T) (.ref (gC K x)) = some false
theorem own2_of {K : PySem.W.Frag} {x : Str} (h : ownB2 K x = true) : Own2 K x := by
  unfold ownB2 at h
  simp only [Bool.and_eq_true, List.all_eq_true, decide_eq_true_eq] at h
  obtain ⟨h1, h2, h3, h4, h5, h6, h7, h8, h9⟩ := h
  exact ⟨He.eqO_ok h1, h2, h3, ⟨He.eqO_ok h4, He.eqO_ok h5, h6, h7⟩, h8, h9⟩
def exV (cs : List (Str × D)) (file : Str) (ec : List Str) (iso : List (Str × List Bool)) (isb : List (String × List Bool)) (tf : List He.Defn) (ow : List OwnD) (o2 : List Str) (K : PySem.W.Frag) : Bool := exU cs file ec iso isb tf ow K && o2.all fun x => ownB2 K x
theorem moreV {cs : List (Str × D)} {file : Str} {ec : List Str} {iso : List (Str × List Bool)} {isb : List (String × List Bool)} {tf : List He.Defn} {ow : List OwnD} {o2 : List Str} {K : PySem.W.Frag} (h : exV cs file ec iso isb tf ow o2 K = true) : MoreY cs file ec iso isb tf K ∧ (∀ d ∈ ow, OwnH K d) ∧ ∀ x ∈ o2, Own2 K x := by
  obtain ⟨h1, h2⟩ := He.ba h
  obtain ⟨h3, h4⟩ := moreU h1
  exact ⟨h3, h4, fun x hx => own2_of (List.all_eq_true.mp h2 x hx)⟩
section
variable {Γ : Gm} {P : Program} {w : World} {mg : Str → Option Value} {base h : Heap} {d : OwnD} {c : Nat}
theorem spc_of {n : Str} {k j : Nat} {φ : Fn} {fd : FuncData} {ps : List Str} (O : OwnH Γ.K d) (hc : Γ.own c = (gC Γ.K d.name, none)) (hn : n ∈ d.meths) (F : FnG P w Γ.K mg base k (He.ma Γ.K (gC Γ.K d.name) n) fd ps (spZ Γ j φ)) (b : Binds Γ.K fd ps []) : Spc Γ P w mg base c n k j φ :=
  have m := O.meth n hn
  ⟨own_c O hc, _, fd, ps, by rw [hc]; exact m.at_, m.fn, F, b⟩
theorem eqc_of {k : Nat} {φ : Fn} (O2 : Own2 Γ.K d.name) (hc : Γ.own c = (gC Γ.K d.name, none)) (S : Spc Γ P w mg base c "__eq__" k 2 φ) : EqC Γ P w mg base c k φ :=
  ⟨S, by rw [hc]; exact O2.ne, by rw [hc]; exact O2.ob, by rw [hc]; exact O2.nf⟩
theorem iso_of (O : OwnH Γ.K d) (O2 : Own2 Γ.K d.name) (hc : Γ.own c = (gC Γ.K d.name, none)) (X : Γ.K.In h) (G : h.Ns mainGlobals mg) : IsO Γ mg d.name c :=
  ⟨own_c O hc, by rw [hc]; exact O2.si, by rw [hc]; exact PySem.W.mg_of X G O.at_, by rw [hc]; exact O2.yes, by rw [hc]; exact O2.no⟩
end
/-! ### what holds behind them -/
section
variable {m : M} {f g : Den} {Q : D → M → Prop} {E : Nat → D → M → Prop}
theorem wlenO {c : Nat} {φ : Fn} (q : RE (f m) (fun d m1 => ∃ ds, d = .ins c ds ∧ Res (φ [.ins c ds] m1.S) (fun x S => ∃ i, x = .int i ∧ decide (0 ≤ i ∧ i.natAbs < 1000000) = true ∧ Q (.int i) ⟨m1.e, S⟩) nE) E) : RE (zlenO c φ f m) Q E :=
  rbind (q.mono (fun d m1 ⟨ds, e, q⟩ => by
    subst e
    show RE (if c = c then lenR m1 (φ [.ins c ds] m1.S) else .bad) _ _
    rw [if_pos rfl]
    cases e : φ [.ins c ds] m1.S with
    | ok d S =>
      rw [e] at q
      obtain ⟨i, rfl, h1, h2⟩ := q
      show RE (if decide (0 ≤ i ∧ i.natAbs < 1000000) = true then _ else _) _ _
      rw [if_pos h1]
      exact h2
    | exc _ _ _ => rw [e] at q; exact q.elim
    | bad => rw [e] at q; exact q.elim) fun _ _ _ q => q)
theorem winO {c : Nat} {n : Bool} {φ : Fn} (q : RE (f m) (fun d m1 => RE (g m1) (fun e m2 => ∃ ds, e = .ins c ds ∧ Res (φ [.ins c ds, d] m2.S) (fun x S => ∃ b, x = .bl b ∧ Q (.bl (xor n b)) ⟨m2.e, S⟩) nE) E) E) : RE (zinO n c φ f g m) Q E :=
  rbind (q.mono (fun d m1 q => rbind (q.mono (fun e m2 ⟨ds, e, q⟩ => by
    subst e
    show RE (if c = c then boolR n m2 (φ [.ins c ds, d] m2.S) else .bad) _ _
    rw [if_pos rfl]
    cases e : φ [.ins c ds, d] m2.S with
    | ok d S =>
      rw [e] at q
      obtain ⟨b, rfl, h⟩ := q
      exact h
    | exc _ _ _ => rw [e] at q; exact q.elim
    | bad => rw [e] at q; exact q.elim) fun _ _ _ q => q)) fun _ _ _ q => q)
theorem weqO {c : Nat} {n : Bool} {φ : Fn} (q : RE (f m) (fun d m1 => RE (g m1) (fun e m2 => ∃ ds, d = .ins c ds ∧ rhsO c e = true ∧ Res (φ [.ins c ds, e] m2.S) (fun x S => ∃ b, x = .bl b ∧ Q (.bl (xor n b)) ⟨m2.e, S⟩) nE) E) E) : RE (zeqO n c φ f g m) Q E :=
  rbind (q.mono (fun d m1 q => rbind (q.mono (fun e m2 ⟨ds, ed, hr, q2⟩ => by
    subst ed
    show RE (if c = c ∧ rhsO c e = true then boolR n m2 (φ [.ins c ds, e] m2.S) else .bad) _ _
    rw [if_pos ⟨rfl, hr⟩]
    cases e0 : φ [.ins c ds, e] m2.S with
    | ok d S =>
      rw [e0] at q2
      obtain ⟨b, rfl, h⟩ := q2
      exact h
    | exc _ _ _ => rw [e0] at q2; exact q2.elim
    | bad => rw [e0] at q2; exact q2.elim) fun _ _ _ q => q)) fun _ _ _ q => q)
theorem wiso {c : Nat} (q : RE (f m) (fun d m1 => ∃ x, isoD_ c d = some x ∧ Q x m1) E) : RE (ziso c f m) Q E := rbind (q.mono (fun _ _ q => rofO q) fun _ _ _ q => q)
end
end Z

set_option Elab.async false
set_option linter.all false
set_option maxRecDepth 100000
set_option maxHeartbeats 4000000
/-! Z39: displays with stars; dicts under construction -/
namespace Z
open PySem PySem.Spec PyProof.Rows L2 RZ
/-! ### [x, *y, ..] -/
def itemsD : D → Option (List D)
  | .tup xs => some xs
  | .lst xs => some xs
  | _ => none
def zstar (f : Den) (fs : DenL) : DenL := fun m => (f m).bind fun d m1 => match itemsD d with
  | some xs => (fs m1).bind fun ds m2 => .ok (xs ++ ds) m2
  | none => .bad
section
variable {Γ : Gm} {B : Bs} {W : WX} {X : Cx} {e : Expr} {es : List Expr} {f g : Den} {fs : DenL} {pos p : Pos}
theorem a_star (hK : X.K = Γ.K) (he : PE X e (tE Γ B W f)) (hr : PA X es (tA Γ B W fs)) (hs : starEach (.Starred e p :: es) X.env = (true, eval e X.env) :: starEach es X.env) : PA X (.Starred e p :: es) (tA Γ B W (zstar f fs)) := by
  refine PA.imp (StX.pa_star he hr hs) fun σ H Q ⟨m, z, rl, h⟩ => ?_
  refine bnd rl h fun z1 d m1 x H1 e1 r1 p1 h1 => ?_
  have fin : ∀ {xs : List D} {a : Addr} {vs : List V}, itemsD d = some xs → x = .ref a → (SqT X.K H1 a vs ∨ SqL X.K H1 a vs) → RepL Γ z1 xs vs → ∃ p ys, x = V.ref p ∧ (SqT X.K H1 p ys ∨ SqL X.K H1 p ys) ∧ tA Γ B W fs σ H1 fun zs H2 => Q (ys ++ zs) H2 := fun {xs a vs} ei ex hq hx => by
    rw [ei] at h1
    refine ⟨a, vs, ex, hq, bnd r1 h1 fun z2 ds m2 us H2 e2 r2 p2 h2 => ?_⟩
    exact h2 z2 (vs ++ us) H2 (Ext.refl _) r2 ((RepL.mono e2 xs hx).append p2)
  cases d with
  | tup xs =>
    obtain ⟨a, us, rfl, k1, k2⟩ := Rep.tup.mp p1
    exact fin rfl rfl (.inl (hK ▸ r1.sqT k1)) k2
  | lst xs =>
    obtain ⟨a, us, rfl, k1, k2⟩ := Rep.lst.mp p1
    exact fin rfl rfl (.inr (SqL.of (r1.rf.sub _ _ k1))) k2
  | _ => exact h1.elim
theorem ast (he : PE X e (tE Γ B W f)) (hr : PA X es (tA Γ B W fs)) (hK : X.K = Γ.K := by rfl) (hs : starEach (.Starred e p :: es) X.env = (true, eval e X.env) :: starEach es X.env := by rfl) : PA X (.Starred e p :: es) (tA Γ B W (zstar f fs)) := a_star hK he hr hs
theorem aco (ha : PE X e (tE Γ B W f)) (hr : PA X es (tA Γ B W fs)) (hs : starEach (e :: es) X.env = (false, eval e X.env) :: starEach es X.env := by rfl) : PA X (e :: es) (tA Γ B W (zcons f fs)) := z_acons ha hr hs
theorem ano : PA X [] (tA Γ B W znil) := z_anil
theorem fstar (ha : PA X es (tA Γ B W fs)) : PE X (.List es pos) (tF Γ B W (zlstF fs)) := z_lstF ha
theorem qstar {x1 : Nat} (ha : PA X es (tA Γ B W fs)) : PE X (.Tuple es x1 pos) (tE Γ B W (ztup fs)) := z_tup ha
/-! ### dicts under construction -/
abbrev rpD (Γ : Gm) (B : Bs) : RpT (BK × List D) V := fun z m σ H x v => ∃ p, v = .ref p ∧ LimB Γ B z m σ H p x.1 x.2
abbrev tD (Γ : Gm) (B : Bs) (W : WX) (f : M → R (BK × List D)) : TE := tZ Γ B W (rpD Γ B) f
def zdctB (ks : List Str) (fs : DenL) : M → R (BK × List D) := fun m => (fs m).bind fun ds m1 => .ok (.k (ks.map Sum.inr), ds) m1
theorem z_dctB {keys : List (Option Expr)} {values : List Expr} {ks : List Str} {fs : DenL} (hB : PDs X Γ W pos keys values ks fs) (h0 : ks ≠ []) (hn : ks.Nodup) (h15 : ks.length ≤ 15) : PE X (.Dict keys values pos) (tD Γ B W (zdctB ks fs)) := by
  obtain ⟨trs, h1, h2⟩ := hB.ex
  have k0 : keys ≠ [] := fun e => h0 (List.length_eq_zero_iff.mp (by rw [← hB.kl, e]; rfl))
  refine ⟨fun pins s σ H Q I ⟨m, z, rl, hz⟩ => (pe_disp h1 hB.all (hB.kl.trans hB.vl.symm) k0 (by rw [hB.kl]; exact h15)).run pins s σ H Q I fun p hp => ?_⟩
  have r1 : Rl Γ B z m σ (upd H p (.dK [])) := rl.call (rl.rf.limbo hp) (sn_limbo hp)
  have nb : p ∉ blds m.e σ := fun hm => by
    obtain ⟨i, ky, ys, k1, k2⟩ := mem_blds.mp hm
    obtain ⟨a, us, e, q1, _⟩ := rl.slot i _ _ k1 k2
    cases e
    rw [q1] at hp; cases hp
  have hb0 : B.H p = none := rl.sn.back hp
  have hz : Po Γ B W (rpD Γ B) σ z ((fs m).bind fun ds m1 => .ok (BK.k (ks.map Sum.inr), ds) m1) Q := hz
  refine h2 (Bs.here B m z σ (upd H p (.dK []))) σ _ _ ⟨m, z, r1.rebase, ?_⟩
  cases e0 : fs m with
  | bad => rw [e0] at hz; exact hz
  | exc c d m1 =>
    rw [e0] at hz
    exact fun z' dx u H' x1 r' g q => hz z' dx u H' x1 (r1.unbase r') g q
  | ok ds m1 =>
    rw [e0] at hz
    intro z' vs H' x1 r' q
    obtain ⟨t1, t2, t3, t4⟩ := Rl.through1 (upd_same (H := H) (o := .dK [])) (fun ps => nofun) (rl.rf.gnone hp) (rl.rf.rnone hp) nb r'
    have r2 := r1.unbase r'
    have hl : vs.length = ks.length := by rw [← q.length]; exact hB.len _ _ _ e0
    have e1 : (ks.zip vs).map (fun q => (V.str q.1, q.2)) = ((ks.map (Sum.inr : Str → Key)).zip vs).map (fun kv => (kV kv.1, kv.2)) := by
      rw [List.zip_map_left, List.map_map]
      rfl
    have e2 : mergeK [] ((ks.map (Sum.inr : Str → Key)).zip vs) = (ks.map (Sum.inr : Str → Key)).zip vs := by
      refine merge_app _ [] ?_
      rw [List.nil_append, zip_fst (by simpa using hl)]
      exact List.Pairwise.map _ (fun a b (n : a ≠ b) e => n (Sum.inr.inj e)) hn
    refine ⟨t1, _, e1, by rw [List.length_zip, List.length_map]; omega, ?_⟩
    rw [e2]
    have l0 : LimB Γ B z' m1 σ H' p (.k []) [] := ⟨⟨[], t1, RepL.nil⟩, t2, t3, .inl hb0, fun i ky ys k1 k2 => t4 (mem_blds.mpr ⟨i, ky, ys, k1, k2⟩)⟩
    obtain ⟨r3, l3⟩ := LimB.write (bk' := .k (ks.map Sum.inr)) l0 r2 q
    exact hz z' _ _ x1 r3 ⟨p, rfl, l3⟩
def zdct0 (k : BK) : M → R (BK × List D) := fun m => .ok (k, []) m
theorem z_dct0K : PE X (.Dict [] [] pos) (tD Γ B W (zdct0 (.k []))) := by
  refine PE.imp pe_dnewK fun σ H Q ⟨m, z, rl, h⟩ p hp => ?_
  obtain ⟨r2, l2⟩ := rl.limboB (k := .k []) (xs := []) (vs := []) hp RepL.nil
  exact h z _ _ (Ext.refl _) r2 ⟨p, rfl, l2⟩
theorem z_dct0T : PE X (.Dict [] [] pos) (tD Γ B W (zdct0 (.t []))) := by
  refine PE.imp pe_dnewT fun σ H Q ⟨m, z, rl, h⟩ p hp => ?_
  obtain ⟨r2, l2⟩ := rl.limboB (k := .t []) (xs := []) (vs := []) hp RepL.nil
  exact h z _ _ (Ext.refl _) r2 ⟨p, rfl, l2⟩
def zsetD (i : Nat) (k : M → R (BK × List D)) : DenS := fun m => (k m).thenS fun x m1 => .nx ⟨m1.e.set i (.box x.1 x.2), m1.S⟩
theorem z_setD {a : Expr} {i : Nat} {x : Str} {pos' : Pos} {k : M → R (BK × List D)} (hN : X.N.Nodup) (hi : X.N[i]? = some x) (hx : Loc X.env.scope x) (he : PE X a (tD Γ B W k)) (hs : swapsWith a (some (.Name x pos')) pos.line X.env = pure false) (hf : X.fn x = true ∨ X.env.scope.names.lookup x = some .local) :
    PS X (.Assign [.Name x pos'] a pos) (tS Γ B W (zsetD i k)) := by
  refine PS.imp (ps_set hN hi hx he hs hf) fun E σ H ⟨m, z, rl, h⟩ => ?_
  refine bndS rl h fun z1 d m1 x H1 e1 r1 p1 h1 => ?_
  obtain ⟨p, rfl, l⟩ := p1
  exact h1 z1 _ H1 (Ext.refl _) (l.setBox r1)
end
/-! ### d.update({..}) -/
section
variable {X : Cx} {pins : List (Addr × Obj)} {σ : L2.St} {H : Hp} {s : Shared} {A : Around} {E : Value → Shared → Prop} {a o : Addr} {kvs more : List (Key × V)}
theorem d_update {Q : Value → Shared → Prop} (I : Inv X pins σ H s) (e : H a = some (.dK kvs)) (eo : H o = some (.dK more)) (hne : a ≠ o) (hl : kvs.length + more.length ≤ sizeLine) (h : ∀ s', Inv X pins σ (upd H a (.dK (mergeK kvs more))) s' → Q .none s') :
    wpAny (model X.prog X.w) A (call (.builtin "dict.update") [.ref a, .ref o]) Q E s := by
  obtain ⟨z, hd, vs, rel, dd⟩ := dk_of I.hok e
  obtain ⟨z2, hd2, vs2, rel2, dd2⟩ := dk_of I.hok eo
  refine call_meetsIn PySem.F.slot_dict_update dd.typeIs PySem.F.entry_dict_update (PySem.F.args_dict_update_2 _ _) (meets_dict_update (mixKind X.prog X.w) a o hne hd2) ⟨vs, vs2, dd, dd2, by rw [← rel.length, ← rel2.length]; exact hl, fun h' dd' _ hs => h _ ?_⟩
  have he : ∃ q, h'.get? a = some q := let ⟨q, _, _, hq, _⟩ := dd'; ⟨q, hq⟩
  exact d_write (t' := s.toks) I (by rw [e]; exact True.intro) hs he (dk_new (Nat.le_trans (length_mergeK more kvs) hl) hd (KV.merge rel2 rel) dd')
end
def tDUpd (td ty : TE) : TE := fun σ H Q => td σ H fun x H1 => ∃ a, x = .ref a ∧ IsD H1 a ∧ ty σ H1 fun y H2 => ∃ o kvs more, y = .ref o ∧ H2 a = some (.dK kvs) ∧ H2 o = some (.dK more) ∧ a ≠ o ∧ kvs.length + more.length ≤ sizeLine ∧ Q .non (upd H2 a (.dK (mergeK kvs more)))
section
variable {X : Cx} {o e : Expr} {apos cpos : Pos} {td ty : TE}
theorem pe_dupd (ho : PE X o td) (he : PE X e ty) (m : M1 X o "update" apos e cpos) : PE X (.Call (.Attribute o "update" apos) [e] [] cpos) (tDUpd td ty) := by
  refine ⟨fun pins s σ H Q I h => ?_⟩
  refine wpAny_Call_method m.base m.few m.line PySem.F.plainAttrs_dict PySem.F.slot_dict_update PySem.F.type_dict_update (thn (ho.run pins s σ H _ I h) fun u s1 ⟨x, H1, I1, rx, a, ex, d, q1⟩ => ?_)
  subst ex
  obtain rfl : u = Value.ref a := rx
  obtain ⟨t1, t2, _⟩ := isD_at I1 d
  refine ⟨t1, t2, ?_⟩
  rw [m.trees]
  refine Calls.callWith_builtin rfl (Calls.evalArgs_plain (Calls.spliced_cons (thn (he.run pins s1 σ H1 _ I1 q1) fun iv s2 ⟨y, H2, I2, ry, o2, kvs, more, ey, ea, eo, hne, hl, q2⟩ => Calls.spliced_nil ?_)))
  subst ey
  obtain rfl : iv = Value.ref o2 := ry
  exact d_update I2 ea eo hne hl fun s3 I3 => ⟨.non, _, I3, rfl, q2⟩
end
end Z

set_option Elab.async false
set_option linter.all false
set_option maxRecDepth 100000
set_option maxHeartbeats 4000000
/-! Z40: dicts under construction: read as a value, update, items set -/
namespace Z
open PySem PySem.Spec PyProof.Rows L2 RZ
def BK.toD : BK → List D → Option D
  | .l, xs => some (.lst xs)
  | .k ks, xs => if ks.length = xs.length then some (.dct (ks.map keyD) xs) else none
  | .t ks, xs => if ks.length = xs.length ∧ ks ≠ [] then some (.dct (ks.map fun k => D.tup (k.map keyD)) xs) else none
def zvarX (i : Nat) : Den := fun m => match m.e[i]? with
  | some (.val d) => .ok d m
  | some (.box bk xs) => (match bk.toD xs with
    | some d => .ok d ⟨m.e.set i (.val d), m.S⟩
    | none => .bad)
  | _ => .bad
section
variable {Γ : Gm} {B : Bs} {W : WX} {X : Cx} {e : Expr} {f g : Den} {pos p : Pos}
theorem zip_keys {α : Type} {ks : List α} {vs : List V} (h : ks.length = vs.length) : (ks.zip vs).map (·.1) = ks := zip_fst h.symm
theorem rep_toD {bk : BK} {xs : List D} {d : D} (h : bk.toD xs = some d) : ∀ (z' : Fz) (vs : List V) (a : Addr), z'.G a = some (bk.ho vs) → RepL Γ z' xs vs → Rep Γ z' d (.ref a) := by
  intro z' vs a hg hr
  cases bk with
  | l => cases h; simp only [Rep]; exact ⟨a, vs, rfl, hg, hr⟩
  | k ks =>
    have h : (if ks.length = xs.length then some (D.dct (ks.map keyD) xs) else none) = some d := h
    split at h
    · rename_i hl
      cases h
      have hl2 : ks.length = vs.length := by rw [hl, hr.length]
      simp only [Rep]
      refine ⟨a, rfl, .inl ⟨ks.zip vs, hg, ?_, by rw [zip_snd hl2.symm]; exact hr⟩⟩
      have : ((ks.zip vs).map fun p => keyD p.1) = ((ks.zip vs).map (·.1)).map keyD := by rw [List.map_map]; rfl
      rw [this, zip_keys hl2]
    · cases h
  | t ks =>
    have h : (if ks.length = xs.length ∧ ks ≠ [] then some (D.dct (ks.map fun k => D.tup (k.map keyD)) xs) else none) = some d := h
    split at h
    · rename_i hl
      cases h
      have hl2 : ks.length = vs.length := by rw [hl.1, hr.length]
      simp only [Rep]
      refine ⟨a, rfl, .inr ⟨ks.zip vs, fun e0 => hl.2 ?_, hg, ?_, by rw [zip_snd hl2.symm]; exact hr⟩⟩
      · rw [← zip_keys hl2, e0]; rfl
      · have : ((ks.zip vs).map fun p => D.tup (p.1.map keyD)) = ((ks.zip vs).map (·.1)).map fun k => D.tup (k.map keyD) := by rw [List.map_map]; rfl
        rw [this, zip_keys hl2]
    · cases h
theorem z_varX {i : Nat} {x : Str} (hN : X.N[i]? = some x) (hv : Vis X.env.scope x) (hd : (x == ("__debug__" : Str)) = false) (hcd : (x == ("__classdict__" : Str)) = false) : PE X (.Name x pos) (tE Γ B W (zvarX i)) :=
  PE.imp (pe_var hN hv hd hcd) fun σ H Q ⟨m, z, r, h⟩ => by
    unfold zvarX at h
    split at h
    · rename_i d e
      have hl : i < σ.length := by rw [← r.len]; exact (List.getElem?_eq_some_iff.mp e).1
      obtain ⟨v, ev, rp⟩ := r.slot i _ _ e (List.getElem?_eq_getElem hl)
      exact ⟨v, by rw [List.getElem?_eq_getElem hl, ev], h z v H (Ext.refl z) r rp⟩
    · rename_i bk xs e
      split at h
      · rename_i d ed
        have hl : i < σ.length := by rw [← r.len]; exact (List.getElem?_eq_some_iff.mp e).1
        have e2 := List.getElem?_eq_getElem hl
        obtain ⟨a, vs, ev, _⟩ := r.slot i _ _ e e2
        rw [ev] at e2
        obtain ⟨z', x1, x2, x3⟩ := r.boxFreeze e e2 (rep_toD ed)
        exact ⟨.ref a, e2, h z' _ H x1 x2 x3⟩
      · exact h.elim
    · exact h.elim
/-! ### d.update(e) -/
theorem keysL_D : ∀ (ks : List Key), keysL (ks.map keyD) = some ks
  | [] => rfl
  | k :: ks => by
    have e : keyOf2 (keyD k) = some k := by cases k <;> rfl
    rw [List.map_cons, keysL, e, keysL_D ks]; rfl
theorem keysL_tup : ∀ {kvs : List (List Key × V)}, kvs ≠ [] → keysL (kvs.map fun p => D.tup (p.1.map keyD)) = none
  | [], h => absurd rfl h
  | p :: kvs, _ => rfl
/-- new keys behind the others -/
def updB (ks : List Key) (xs : List D) : D → Option (List Key × List D)
  | .dct ks2 ds2 => (keysL ks2).bind fun k2 => if (ks ++ k2).Nodup ∧ ks.length = xs.length ∧ k2.length = ds2.length ∧ small (ks.length + k2.length) = true then some (ks ++ k2, xs ++ ds2) else none
  | _ => none
def isBk (m : M) (i : Nat) : Bool := match m.e[i]? with
  | some (.box (.k _) _) => true
  | _ => false
def zupd (i : Nat) (f : Den) : Den := fun m => if isBk m i = true then (f m).bind fun d m1 => (match m1.e[i]? with
  | some (.box (.k ks) xs) => (match updB ks xs d with
    | some r => .ok .non ⟨m1.e.set i (.box (.k r.1) r.2), m1.S⟩
    | none => .bad)
  | _ => .bad) else .bad
theorem isBk_of {m : M} {i : Nat} (h : isBk m i = true) : ∃ ks xs, m.e[i]? = some (.box (.k ks) xs) := by
  unfold isBk at h
  split at h
  · rename_i ks xs e; exact ⟨ks, xs, e⟩
  · cases h
theorem box_at {z : Fz} {m : M} {σ : L2.St} {H : Hp} {i : Nat} {bk : BK} {xs : List D} (r : Rl Γ B z m σ H) (h : m.e[i]? = some (.box bk xs)) : ∃ a vs, σ[i]? = some (some (.ref a)) ∧ H a = some (bk.ho vs) ∧ RepL Γ z xs vs ∧ z.G a = none := by
  have hl : i < σ.length := by rw [← r.len]; exact (List.getElem?_eq_some_iff.mp h).1
  obtain ⟨a, vs, e, k1, k2, k3, _⟩ := r.slot i _ _ h (List.getElem?_eq_getElem hl)
  exact ⟨a, vs, by rw [List.getElem?_eq_getElem hl, e], k1, k2, k3⟩
theorem z_upd {i : Nat} {y : Str} {p apos cpos : Pos} (hN : X.N[i]? = some y) (hv : Vis X.env.scope y) (hd : (y == ("__debug__" : Str)) = false) (hcd : (y == ("__classdict__" : Str)) = false) (he : PE X e (tE Γ B W f)) (m1 : M1 X (.Name y p) "update" apos e cpos) :
    PE X (.Call (.Attribute (.Name y p) "update" apos) [e] [] cpos) (tE Γ B W (zupd i f)) := by
  refine PE.imp (pe_dupd (pe_var hN hv hd hcd) he m1) fun σ H Q ⟨m, z, rl, h⟩ => ?_
  unfold zupd at h
  split at h
  · rename_i hb
    obtain ⟨ks0, xs0, hb⟩ := isBk_of hb
    obtain ⟨a, vs0, k1, k2, k3, _⟩ := box_at rl hb
    refine ⟨.ref a, k1, a, rfl, .inl ⟨_, .inl k2⟩, ?_⟩
    refine bnd rl h fun z1 d m1 v H1 e1 r1 p1 h1 => ?_
    split at h1
    · rename_i ks xs q1
      split at h1
      · rename_i r q2
        obtain ⟨a', vs, g1, g2, g3, g4⟩ := box_at r1 q1
        rw [k1] at g1
        cases g1
        cases d with
        | dct ks2 ds2 =>
          simp only [updB, Option.bind_eq_some_iff] at q2
          obtain ⟨kk, q3, q4⟩ := q2
          split at q4
          · rename_i hc
            obtain ⟨c1, c2, c3, c4⟩ := hc
            cases q4
            simp only [Rep] at p1
            obtain ⟨o, rfl, ⟨kvs, w1, rfl, w3⟩ | ⟨kvs, w0, w1, rfl, w3⟩⟩ := p1
            · have ekk : kk = kvs.map (·.1) := by
                have : (kvs.map fun p => keyD p.1) = (kvs.map (·.1)).map keyD := by rw [List.map_map]; rfl
                rw [this, keysL_D] at q3
                exact (Option.some.inj q3).symm
              have hne : a ≠ o := fun q => by rw [q, w1] at g4; cases g4
              have hl : ks.length = vs.length := by rw [c2, g3.length]
              have ezip : kvs = kk.zip (kvs.map (·.2)) := by rw [ekk]; exact (List.zip_of_prod rfl rfl)
              have em : mergeK (ks.zip vs) kvs = (ks ++ kk).zip (vs ++ kvs.map (·.2)) := by
                rw [List.zip_append hl, ← ezip]
                refine merge_app kvs _ ?_
                rw [List.map_append, zip_keys hl, ← ekk]
                exact c1
              have hsm := small_le c4
              refine ⟨o, ks.zip vs, kvs, rfl, g2, r1.rf.sub _ _ w1, hne, ?_, ?_⟩
              · have e3 : kvs.length = kk.length := by rw [ekk, List.length_map]
                rw [List.length_zip, e3]
                omega
              · rw [em]
                exact h1 z1 _ _ (Ext.refl _) (r1.boxWrite (bk' := .k (ks ++ kk)) q1 k1 (g3.append w3)) (Rep.non.mpr rfl)
            · rw [keysL_tup w0] at q3; cases q3
          · cases q4
        | _ => cases q2
      · exact h1.elim
    · exact h1.elim
  · exact h.elim
theorem qupd {y : Str} {p apos cpos : Pos} (i : Nat) (he : PE X e (tE Γ B W f)) (hN : X.N[i]? = some y := by rfl) (hv : visB X.env.scope y = true := by rfl) (hd : (y == ("__debug__" : Str)) = false := by decide) (hcd : (y == ("__classdict__" : Str)) = false := by decide)
    (h1 : attributeBase (.Name y p) "update" X.env (eval (.Name y p) X.env) = eval (.Name y p) X.env := by rfl)
    (h2 : ((backTo cpos (starEach [e] X.env)).all (fun x => !x.1) && (backToKw cpos (keywordEach [] X.env)).all (fun x => x.1.isSome)
    && decide (([e] : List Expr).length + ([] : List Keyword).length + (if ([] : List Keyword).isEmpty then 0 else 1) < 30)) = true := by rfl)
    (h3 : (apos.endLine == cpos.line) = true := by rfl) (h4 : backTo cpos (starEach [e] X.env) = [(false, eval e X.env)] := by rfl) :
    PE X (.Call (.Attribute (.Name y p) "update" apos) [e] [] cpos) (tE Γ B W (zupd i f)) := z_upd hN (visB_ok hv) hd hcd he ⟨h1, h2, h3, h4⟩
theorem qvarX {x : Str} (i : Nat) (hN : X.N[i]? = some x := by rfl) (hv : visB X.env.scope x = true := by rfl) (hd : (x == ("__debug__" : Str)) = false := by decide) (hcd : (x == ("__classdict__" : Str)) = false := by decide) : PE X (.Name x pos) (tE Γ B W (zvarX i)) := z_varX hN (visB_ok hv) hd hcd
theorem qdctB {keys : List (Option Expr)} {values : List Expr} {ks : List Str} {fs : DenL} (h : PDs X Γ W pos keys values ks fs) (h0 : ks ≠ [] := by decide) (hn : ks.Nodup := by decide) (h15 : ks.length ≤ 15 := by decide) : PE X (.Dict keys values pos) (tD Γ B W (zdctB ks fs)) := z_dctB h h0 hn h15
theorem ssetD {a : Expr} {x : Str} {pos' : Pos} {k : M → R (BK × List D)} (i : Nat) (hN : X.N.Nodup) (he : PE X a (tD Γ B W k)) (hi : X.N[i]? = some x := by rfl) (hx : locB X.env.scope x = true := by rfl) (hs : swapsWith a (some (.Name x pos')) pos.line X.env = pure false := by rfl) (hf : X.fn x = true ∨ X.env.scope.names.lookup x = some .local := by first | exact .inl rfl | exact .inr rfl) :
    PS X (.Assign [.Name x pos'] a pos) (tS Γ B W (zsetD i k)) := z_setD hN hi (locB_ok hx) he hs hf
end
/-! ### steps -/
section
variable {m : M} {f : Den} {fs : DenL} {Q : D → M → Prop} {QL : List D → M → Prop} {E : Nat → D → M → Prop} {N : M → Prop} {T : D → M → Prop}
theorem wstarI (q : RE (f m) (fun d m1 => ∃ xs, itemsD d = some xs ∧ RE (fs m1) (fun ds m2 => QL (xs ++ ds) m2) E) E) : RE (zstar f fs m) QL E :=
  rbind (q.mono (fun d m1 ⟨xs, h1, h2⟩ => by
    show RE (match itemsD d with
      | some xs => (fs m1).bind fun ds m2 => .ok (xs ++ ds) m2
      | none => .bad) _ _
    rw [h1]
    exact rbind h2) fun _ _ _ q => q)
theorem wsetD {i : Nat} {k : M → R (BK × List D)} (q : RE (k m) (fun x m1 => N ⟨m1.e.set i (.box x.1 x.2), m1.S⟩) E) : RT (zsetD i k m) N T E := rthen q
theorem wdctB {ks : List Str} {Q2 : BK × List D → M → Prop} (q : RE (fs m) (fun ds m1 => Q2 (.k (ks.map Sum.inr), ds) m1) E) : RE (zdctB ks fs m) Q2 E := rbind q
theorem wdct0 {k : BK} {Q2 : BK × List D → M → Prop} (q : Q2 (k, []) m) : RE (zdct0 k m) Q2 E := q
theorem wvarX {i : Nat} {d : D} (h : m.e[i]? = some (.val d)) (q : Q d m) : RE (zvarX i m) Q E := by unfold zvarX; rw [h]; exact q
theorem wvarXB {i : Nat} {bk : BK} {xs : List D} {d : D} (h : m.e[i]? = some (.box bk xs)) (hd : bk.toD xs = some d) (q : Q d ⟨m.e.set i (.val d), m.S⟩) : RE (zvarX i m) Q E := by
  unfold zvarX
  rw [h]
  show RE (match bk.toD xs with
    | some d => .ok d ⟨m.e.set i (.val d), m.S⟩
    | none => .bad) _ _
  rw [hd]
  exact q
theorem wupd {i : Nat} {ks0 : List Key} {xs0 : List D} (h0 : m.e[i]? = some (.box (.k ks0) xs0)) (q : RE (f m) (fun d m1 => ∃ ks xs r, m1.e[i]? = some (.box (.k ks) xs) ∧ updB ks xs d = some r ∧ Q .non ⟨m1.e.set i (.box (.k r.1) r.2), m1.S⟩) E) : RE (zupd i f m) Q E := by
  unfold zupd
  rw [if_pos (by unfold isBk; rw [h0])]
  refine rbind (q.mono (fun d m1 ⟨ks, xs, r, h1, h2, h3⟩ => ?_) fun _ _ _ q => q)
  rw [h1]
  show RE (match updB ks xs d with
    | some r => R.ok D.non ⟨m1.e.set i (.box (.k r.1) r.2), m1.S⟩
    | none => R.bad) _ _
  rw [h2]
  exact h3
end
end Z

set_option Elab.async false
set_option linter.all false
set_option maxRecDepth 100000
set_option maxHeartbeats 4000000
/-! Z41: defs that return a new dict, kept under construction by the caller; items of such a dict read and set -/
namespace Z
open PySem PySem.Spec PyProof.Rows L2 RZ
/-- a dict's result: its keys and values -/
def dOf : D → Option (List Key × List D)
  | .dct ks xs => (keysL ks).bind fun kk => if kk.length = xs.length then some (kk, xs) else none
  | _ => none
/-- what a call of such a def promises -/
def PoF2 (Γ : Gm) (z : Fz) (H : Hp) (r : RF) (Q : VK) (E : XK) : Prop := match r with
  | .ok d S => ∀ z' v H', Sn [] z z' H H' → Rf Γ z' S H' → (∀ kk xs, dOf d = some (kk, xs) → ∃ p us, v = .ref p ∧ H' p = some (.dK (kk.zip us)) ∧ RepL Γ z' xs us ∧ z'.G p = none ∧ p ∉ z'.r ∧ H p = none) → Q v H'
  | .exc c d S => ∀ z' dx u H', Sn [] z z' H H' → Rf Γ z' S H' → z'.G dx = some (.xd [(("value" : Str), u)]) → Rep Γ z' d u → E (.ref (Γ.cls c)) (some dx) H'
  | .bad => False
def spZ2 (Γ : Gm) (n : Nat) (φ : Fn) : Sp := fun vs H Q E => vs.length = n ∧ ∃ z ds S, Rf Γ z S H ∧ RepL Γ z ds vs ∧ PoF2 Γ z H (φ ds S) Q E
section
variable {Γ : Gm} {B : Bs} {W : WX} {X : Cx} {σ : L2.St} {H : Hp} {z : Fz} {m : M}
theorem dOf_dct {ks : List D} {xs : List D} {kk : List Key} {ys : List D} (h : dOf (.dct ks xs) = some (kk, ys)) : keysL ks = some kk ∧ kk.length = xs.length ∧ ys = xs := by
  simp only [dOf, Option.bind_eq_some_iff] at h
  obtain ⟨k2, h1, h2⟩ := h
  split at h2
  · rename_i hl
    cases h2
    exact ⟨h1, hl, rfl⟩
  · cases h2
theorem dOf_is {d : D} {r : List Key × List D} (h : dOf d = some r) : ∃ ks xs, d = .dct ks xs := by
  cases d with
  | dct ks xs => exact ⟨ks, xs, rfl⟩
  | _ => cases h
theorem start_rl2 {N : List Str} {vs : List V} {ds : List D} {S : List (List D)} (rf : Rf Γ z S H) (rp : RepL Γ z ds vs) : Rl Γ ⟨H, z, [], 0, true⟩ z ⟨padE N ds, S⟩ (start N vs) H :=
  let r := start_rl (N := N) rf rp
  ⟨r.rf, r.sn, r.len, r.slot, r.apart⟩
theorem body_conv2 {N : List Str} {n : Nat} {g : DenS} {vs : List V} {Q : VK} {E : XK} (h : spZ2 Γ n (bodyFn N n g) vs H Q E) :
    ∃ z, tS Γ ⟨H, z, [], 0, true⟩ (fun c d _ H => E c d H) g { nx := fun _ H' => Q .non H', rt := Q } (start N vs) H := by
  obtain ⟨hn, z, ds, S, rf, rp, po⟩ := h
  refine ⟨z, ⟨padE N ds, S⟩, z, start_rl2 rf rp, ?_⟩
  unfold bodyFn at po
  rw [if_pos (by rw [rp.length]; exact hn)] at po
  cases e : g ⟨padE N ds, S⟩ with
  | nx m => rw [e] at po; exact fun z' σ' H' x r => po z' .non H' r.sn r.rf (fun kk xs q => nomatch q)
  | rt d m =>
    rw [e] at po
    refine fun z' v σ' H' x r p => po z' v H' r.sn r.rf fun kk xs q => ?_
    obtain ⟨ks, ys, rfl⟩ := dOf_is q
    obtain ⟨q1, q2, rfl⟩ := dOf_dct q
    obtain ⟨a, rfl, l⟩ := p ks xs kk rfl q1 q2
    obtain ⟨us, l1, l2⟩ := l.ex
    refine ⟨a, us, rfl, l1, l2, l.g, l.r, ?_⟩
    rcases l.b with b | b
    · exact b
    · exact nomatch b
  | bk m => rw [e] at po; exact po.elim
  | ct m => rw [e] at po; exact po.elim
  | exc c d m => rw [e] at po; exact fun z' dx u σ' H' x r g p => po z' dx u H' r.sn r.rf g p
  | bad => rw [e] at po; exact po.elim
theorem FunD.okZ2 {x : Str} {f : Addr} {fd : FuncData} {ps : List Str} {k : Nat} {P : Program} {w : World} {K : PySem.W.Frag} {mg : Str → Option Value} {base : Heap} {q : Str} {params : Arguments} {body : List Stmt} {sc : Scope} {dvs : List V} {kws : List (Str × V)} {N : List Str} {n : Nat} {g : DenS} (F : FunD K x q params body sc dvs kws f fd) (S : FnScope N ps sc) (hn : n = ps.length)
    (hb : ∀ (cdv : Value) (A : Around) (outer : List Env) (s : Shared) (H : Hp) (E : XK) (z : Fz), A.guards = some [] → Room k (A.deeper (envOfC q sc s.heap.objs.size f cdv)) →
      PSs (cxOf (L2.CX P w) P w K mg base N q sc f cdv A outer s H E) body (tS Γ ⟨H, z, [], 0, true⟩ (fun c d _ H => E c d H) g)) : FnG P w K mg base (k + 1) f fd ps (spZ2 Γ n (bodyFn N n g)) := by
  obtain ⟨oc, od, dV, kV, doc, pm, an, cdv, ct, osl, rfl, lk, hcd, _, _⟩ := F.ex
  refine fnG_of lk hcd S (fun vs H Q E h => by rw [← hn]; exact h.1) fun A outer s H vs Q E hg hr h => ?_
  obtain ⟨z, hz⟩ := body_conv2 h
  exact ⟨_, hb cdv A outer s H E z hg hr, hz⟩
end
end Z

set_option Elab.async false
set_option linter.all false
set_option maxRecDepth 100000
set_option maxHeartbeats 4000000
/-! Z42: calls of defs that return a new dict -/
namespace Z
open PySem PySem.Spec PyProof.Rows L2 RZ
def backR2 (r : RF) (m : M) : R (BK × List D) := match r with
  | .ok d S => (match dOf d with
    | some q => .ok (.k q.1, q.2) ⟨m.e, S⟩
    | none => .bad)
  | .exc c d S => .exc c d ⟨m.e, S⟩
  | .bad => .bad
def zcallF (φ : Fn) (dd : List D) (fs : DenL) : M → R (BK × List D) := fun m => (fs m).bind fun ds m1 => backR2 (φ (ds ++ dd) m1.S) m1
structure CalF (Γ : Gm) (P : Program) (w : World) (mg : Str → Option Value) (base : Heap) (x : Str) (k n : Nat) (φ : Fn) : Prop where
  ex : ∃ f fd ps, FnG P w Γ.K mg base k f fd ps (spZ2 Γ n φ) ∧ mg x = some (.ref f) ∧ PySem.W.keepIn Γ.K (.ref f) = true ∧ Binds Γ.K fd ps []
section
variable {Γ : Gm} {B : Bs} {W : WX} {X : Cx} {σ : L2.St} {H : Hp} {z : Fz} {m : M} {k n : Nat} {φ : Fn} {x : Str} {p pos : Pos} {e : Expr} {es : List Expr} {fs : DenL}
theorem new_lim {z' : Fz} {S : List (List D)} {H' : Hp} {a : Addr} {kk : List Key} {xs : List D} {us : List V} (rl : Rl Γ B z m σ H) (h1 : H' a = some (.dK (kk.zip us))) (h2 : RepL Γ z' xs us) (h3 : z'.G a = none) (h4 : a ∉ z'.r) (h5 : H a = none) : LimB Γ B z' ⟨m.e, S⟩ σ H' a (.k kk) xs :=
  ⟨⟨us, h1, h2⟩, h3, h4, .inl (rl.sn.back h5), fun i ky ys k1 k2 => by
    obtain ⟨b, vs, e, q1, _⟩ := rl.slot i _ _ k1 k2
    cases e
    rw [h5] at q1; cases q1⟩
theorem call_conv2 {us : List V} {ds : List D} {Q : VK} (rl : Rl Γ B z m σ H) (rp : RepL Γ z ds us) (hn : us.length = n) (h : Po Γ B W (rpD Γ B) σ z (backR2 (φ ds m.S) m) Q) : spZ2 Γ n φ us H Q (WE W σ) := by
  refine ⟨hn, z, ds, m.S, rl.rf, rp, ?_⟩
  cases e : φ ds m.S with
  | bad => rw [e] at h; exact h
  | ok d S =>
    rw [e] at h
    have h : Po Γ B W (rpD Γ B) σ z (match dOf d with
      | some q => R.ok (BK.k q.1, q.2) ⟨m.e, S⟩
      | none => R.bad) Q := h
    cases ed : dOf d with
    | none => rw [ed] at h; exact h.elim
    | some q =>
      rw [ed] at h
      intro z' v H' st f r
      obtain ⟨a, vs, rfl, g1, g2, g3, g4, g5⟩ := r q.1 q.2 ed
      exact h z' _ H' st.ext (rl.call f st) ⟨a, rfl, new_lim rl g1 g2 g3 g4 g5⟩
  | exc c d S =>
    rw [e] at h
    exact fun z' dx u H' st f g r => h z' dx u H' st.ext (rl.call f st) g r
/-- the call, whatever is done with the answer -/
theorem pe_callF {k' : Nat} (C : CalF Γ X.prog X.w X.mg X.base x k n φ) (hr : Room k' X.A) (hk : k ≤ k') (hgd : X.A.guards = some []) (tk : Takes X W) (ha : PAL X Γ B W (e :: es) fs) (hK : X.K = Γ.K) (hg : Gl X x) (hdb : (x == ("__debug__" : Str)) = false) (he : starEach (e :: es) X.env = (false, eval e X.env) :: starEach es X.env) (hpl : (backTo pos (starEach es X.env)).any (·.1) = false) :
    PE X (.Call (.Name x p) (e :: es) [] pos) (fun σ H Q => tA Γ B W fs σ H fun vs H1 => spZ2 Γ n φ vs H1 Q (WE W σ)) := by
  obtain ⟨fa, fd, ps, F, hm, hk2, hb⟩ := C.ex
  rw [← hK] at F hk2 hb
  refine ⟨fun pins s σ H Q I hA => ?_⟩
  refine wpAny_Call_Name_kw (ld_glob I hg hm ?_ hdb)
  refine PySem.W.callWith_K (h₀ := X.base) I.ok.mod.kin hk2 (thn (ha.pa.run pos pins s σ H _ I hA) fun us s1 ⟨vs, H1, I1, r, q⟩ => ⟨I1.kIn, ?_⟩) he hpl
  exact run_fnG (dvs := []) F hgd (hr.mono hk) hb .nil tk I1 r (by rw [List.append_nil]; exact q)
theorem qcallF {k' : Nat} (C : CalF Γ X.prog X.w X.mg X.base x k n φ) (hr : Room k' X.A) (hk : k ≤ k') (hgd : X.A.guards = some []) (tk : Takes X W) (ha : PAL X Γ B W (e :: es) fs) (hK : X.K = Γ.K := by rfl) (hg : Gl X x := by rfl) (hn : (e :: es).length = n := by rfl) (hdb : (x == ("__debug__" : Str)) = false := by decide)
    (he : starEach (e :: es) X.env = (false, eval e X.env) :: starEach es X.env := by rfl) (hpl : (backTo pos (starEach es X.env)).any (·.1) = false := by rfl) : PE X (.Call (.Name x p) (e :: es) [] pos) (tD Γ B W (zcallF φ [] fs)) := by
  refine PE.imp (pe_callF C hr hk hgd tk ha hK hg hdb he hpl) fun σ H Q ⟨m, z, rl, h⟩ => ?_
  have h : Po Γ B W (rpD Γ B) σ z ((fs m).bind fun ds m1 => backR2 (φ (ds ++ []) m1.S) m1) Q := h
  refine ⟨m, z, rl, ?_⟩
  cases e0 : fs m with
  | bad => rw [e0] at h; exact h
  | exc c d m1 => rw [e0] at h; exact h
  | ok ds m1 =>
    rw [e0] at h
    intro z1 us H1 x1 r1 p1
    have hl := ha.len m ds m1 e0
    have h : Po Γ B W (rpD Γ B) σ z (backR2 (φ (ds ++ []) m1.S) m1) Q := h
    rw [List.append_nil] at h
    exact call_conv2 r1 p1 (by rw [← p1.length, hl, hn]) (Po.mono h x1)
/-- return f(..) in a def that returns a new dict -/
theorem z_retF {k' : Nat} (C : CalF Γ X.prog X.w X.mg X.base x k n φ) (hr : Room k' X.A) (hk : k ≤ k') (hgd : X.A.guards = some []) (tk : Takes X W) (ha : PAL X Γ B W (e :: es) fs) (hf : B.fr = true := by rfl) (hK : X.K = Γ.K := by rfl) (hg : Gl X x := by rfl) (hn : (e :: es).length = n := by rfl) (hdb : (x == ("__debug__" : Str)) = false := by decide)
    (he : starEach (e :: es) X.env = (false, eval e X.env) :: starEach es X.env := by rfl) (hpl : (backTo pos (starEach es X.env)).any (·.1) = false := by rfl) {rpos : Pos} : PS X (.Return (some (.Call (.Name x p) (e :: es) [] pos)) rpos) (tS Γ B W (zret (zcall φ [] fs))) := by
  refine PS.imp (ps_ret (pe_callF C hr hk hgd tk ha hK hg hdb he hpl)) fun E σ H ⟨m, z, rl, h⟩ => ?_
  refine ⟨m, z, rl, ?_⟩
  have h : PoS Γ B W E z (((fs m).bind fun ds m1 => backR (φ (ds ++ []) m1.S) m1).thenS fun d m1 => .rt d m1) := h
  cases e0 : fs m with
  | bad => rw [e0] at h; exact h
  | exc c d m1 =>
    rw [e0] at h
    exact fun z' dx u H' x1 r1 g q => h z' dx u σ H' x1 r1 g q
  | ok ds m1 =>
    rw [e0] at h
    intro z1 us H1 x1 r1 p1
    have hl := ha.len m ds m1 e0
    have h : PoS Γ B W E z ((backR (φ (ds ++ []) m1.S) m1).thenS fun d m1 => .rt d m1) := h
    rw [List.append_nil] at h
    refine ⟨by rw [← p1.length, hl, hn], z1, ds, m1.S, r1.rf, p1, ?_⟩
    cases e1 : φ ds m1.S with
    | bad => rw [e1] at h; exact h
    | exc c d S =>
      rw [e1] at h
      exact fun z' dx u H' st f g q => h z' dx u σ H' (x1.trans st.ext) (r1.call f st) g q
    | ok d S =>
      rw [e1] at h
      intro z' v H' st f r
      refine h z' v σ H' (x1.trans st.ext) (r1.call f st) ?_
      unfold RtOk
      rw [hf]
      intro ks xs kk ed ek el
      obtain ⟨a, vs, rfl, g1, g2, g3, g4, g5⟩ := r kk xs (by subst ed; simp only [dOf, ek, Option.bind_some]; rw [if_pos el])
      exact ⟨a, rfl, new_lim r1 g1 g2 g3 g4 g5⟩
/-- return {..} in a def that returns a new dict -/
theorem keysL_str : ∀ (ks : List Str), keysL (ks.map .str) = some (ks.map Sum.inr)
  | [] => rfl
  | k :: ks => by rw [List.map_cons, keysL, keysL_str ks]; rfl
theorem z_retD {keys : List (Option Expr)} {values : List Expr} {ks : List Str} {fs : DenL} {rpos : Pos} (hB : PDs X Γ W pos keys values ks fs) (h0 : ks ≠ [] := by decide) (hn : ks.Nodup := by decide) (h15 : ks.length ≤ 15 := by decide) (hf : B.fr = true := by rfl) : PS X (.Return (some (.Dict keys values pos)) rpos) (tS Γ B W (zret (zdct ks fs))) := by
  refine PS.imp (ps_ret (z_dctB (B := B) hB h0 hn h15)) fun E σ H ⟨m, z, rl, h⟩ => ?_
  refine ⟨m, z, rl, ?_⟩
  have h : PoS Γ B W E z (((fs m).bind fun ds m1 => .ok (.dct (ks.map .str) ds) m1).thenS fun d m1 => .rt d m1) := h
  show Po Γ B W (rpD Γ B) σ z ((fs m).bind fun ds m1 => .ok (BK.k (ks.map Sum.inr), ds) m1) _
  cases e0 : fs m with
  | bad => rw [e0] at h; exact h
  | exc c d m1 =>
    rw [e0] at h
    exact fun z' dx u H' x1 r1 g q => h z' dx u σ H' x1 r1 g q
  | ok ds m1 =>
    rw [e0] at h
    rintro z' v H' x1 r1 ⟨a, rfl, l⟩
    refine h z' _ σ H' x1 r1 ?_
    unfold RtOk
    rw [hf]
    intro ks2 xs kk ed ek el
    cases ed
    rw [keysL_str] at ek
    cases ek
    exact ⟨a, rfl, l⟩
end
end Z

set_option Elab.async false
set_option linter.all false
set_option maxRecDepth 100000
set_option maxHeartbeats 4000000
/-! Z43: defs that return a new dict; items of a dict under construction -/
namespace Z
open PySem PySem.Spec PyProof.Rows L2 RZ
section
variable {Γ : Gm} {P : Program} {w : World} {mg : Str → Option Value} {base : Heap} {x q : Str} {params : Arguments} {body : List Stmt} {sc : Scope} {dvs : List V} {kws : List (Str × V)} {f : Addr} {fd : FuncData} {N ps : List Str} {n k : Nat} {g : DenS}
theorem calFOf (F : FunD Γ.K x q params body sc dvs kws f fd) (hm : mg x = some (.ref f)) (S : FnScope N ps sc) (hn : n = ps.length)
    (hb : ∀ (cdv : Value) (A : Around) (outer : List Env) (s : Shared) (H : Hp) (E : XK) (z : Fz), A.guards = some [] → Room k (A.deeper (envOfC q sc s.heap.objs.size f cdv)) →
      PSs (cxOf (L2.CX P w) P w Γ.K mg base N q sc f cdv A outer s H E) body (tS Γ ⟨H, z, [], 0, true⟩ (fun c d _ H => E c d H) g))
    (hd : Binds Γ.K fd ps []) : CalF Γ P w mg base x (k + 1) n (bodyFn N n g) :=
  ⟨f, fd, ps, FunD.okZ2 F S hn hb, hm, F.kp, hd⟩
end
section
variable {Γ : Gm} {B : Bs} {W : WX} {X : Cx} {σ : L2.St} {H : Hp} {z : Fz} {m : M} {e : Expr} {es : List Expr} {pos : Pos}
def snewD (k : M → R (BK × List D)) (g : M → R (List Sl)) : M → R (List Sl) := fun m => (k m).bind fun x m1 => (g m1).bind fun ss m2 => .ok (.box x.1 x.2 :: ss) m2
theorem s_newD {k : M → R (BK × List D)} {gs : M → R (List Sl)} (ha : PE X e (tD Γ B W k)) (hr : ∀ B, PA X es (tAs Γ B W gs)) (hs : starEach (e :: es) X.env = (false, eval e X.env) :: starEach es X.env) : PA X (e :: es) (tAs Γ B W (snewD k gs)) := by
  refine PA.imp (pa_cons ha (t := fun σ H Q => ∃ B, tAs Γ B W gs σ H Q) ⟨fun pos pins s σ H Q I ⟨B, w⟩ => (hr B).run pos pins s σ H Q I w⟩ hs) fun σ H Q ⟨m, z, rl, h⟩ => ?_
  refine bnd rl h fun z1 xs m1 x H1 e1 r1 p1 h1 => ?_
  obtain ⟨p, rfl, l⟩ := p1
  refine ⟨Bs.here B m1 z1 σ H1, m1, z1, r1.rebase, ?_⟩
  cases eg : gs m1 with
  | bad => rw [eg] at h1; exact h1
  | exc c d m2 =>
    rw [eg] at h1
    exact fun z2 dx u H2 x2 r2 => h1 z2 dx u H2 x2 (Rl.unbase r1 r2)
  | ok ss m2 =>
    rw [eg] at h1
    intro z2 vs H2 x2 r2 p2
    obtain ⟨us, g1, g2⟩ := l.ex
    have px : p ∉ blds m1.e σ := fun h => by
      obtain ⟨i, ky, ys, k1, k2⟩ := mem_blds.mp h
      exact l.sl i ky ys k1 k2
    exact h1 z2 _ H2 x2 (Rl.unbase r1 r2) ⟨.ref p, vs, rfl, ⟨p, rfl, l.through r1 r2⟩, SlsOk.unbase r1 r2 p2, fun _ j t e hb => SlsOk.new g1 px p2 j t e hb⟩
end
end Z

set_option Elab.async false
set_option linter.all false
set_option maxRecDepth 100000
set_option maxHeartbeats 4000000
/-! Z44: items of a dict under construction: x['k'], x['k'] = e (keys that are there) -/
namespace Z
open PySem PySem.Spec PyProof.Rows L2 RZ
def lookV {α : Type} (k : Key) : List Key → List α → Option α
  | a :: ks, d :: ds => if a = k then some d else lookV k ks ds
  | _, _ => none
def setV {α : Type} (k : Key) (x : α) : List Key → List α → List α
  | a :: ks, d :: ds => (if a = k then x else d) :: setV k x ks ds
  | _, _ => []
theorem lookV_rep {Γ : Gm} {z : Fz} {k : Key} : ∀ {ks : List Key} {xs : List D} {vs : List V} {d : D}, RepL Γ z xs vs → lookV k ks xs = some d → ∃ v, valV (ks.zip vs) k = some v ∧ Rep Γ z d v
  | [], xs, vs, d, _, h => by simp [lookV] at h
  | a :: ks, [], vs, d, _, h => by simp [lookV] at h
  | a :: ks, y :: xs, vs, d, r, h => by
    simp only [RepL] at r
    obtain ⟨v, ws, rfl, r1, r2⟩ := r
    rw [List.zip_cons_cons]
    simp only [lookV] at h
    by_cases e : a = k
    · rw [if_pos e] at h
      cases h
      exact ⟨v, valV_pos e, r1⟩
    · rw [if_neg e] at h
      obtain ⟨u, h1, h2⟩ := lookV_rep r2 h
      exact ⟨u, by rw [valV_neg e]; exact h1, h2⟩
theorem setV_rep {Γ : Gm} {z : Fz} {k : Key} {d : D} {v : V} (hd : Rep Γ z d v) : ∀ {ks : List Key} {xs : List D} {vs : List V}, RepL Γ z xs vs → RepL Γ z (setV k d ks xs) (setV k v ks vs)
  | [], xs, vs, _ => by
    have e1 : setV k d [] xs = [] := rfl
    have e2 : setV k v [] vs = [] := rfl
    rw [e1, e2]; exact .nil
  | a :: ks, [], vs, r => by
    simp only [RepL] at r
    subst r
    exact RepL.nil
  | a :: ks, y :: xs, vs, r => by
    simp only [RepL] at r
    obtain ⟨u, ws, rfl, r1, r2⟩ := r
    show RepL Γ z ((if a = k then d else y) :: setV k d ks xs) ((if a = k then v else u) :: setV k v ks ws)
    refine .cons ?_ (setV_rep hd r2)
    split
    · exact hd
    · exact r1
theorem put_zip {k : Key} {v : V} : ∀ {ks : List Key} {vs : List V}, ks.length = vs.length → (ks.zip vs).map (fun kv => if kv.1 = k then (kv.1, v) else kv) = ks.zip (setV k v ks vs)
  | [], vs, _ => by simp
  | a :: ks, [], h => by simp at h
  | a :: ks, u :: vs, h => by
    show (if a = k then (a, v) else (a, u)) :: (ks.zip vs).map _ = (a, if a = k then v else u) :: ks.zip (setV k v ks vs)
    rw [put_zip (by simpa using h)]
    split <;> rfl
theorem any_zip {k : Key} : ∀ {ks : List Key} {vs : List V}, ks.length = vs.length → k ∈ ks → (ks.zip vs).any (fun kv => decide (kv.1 = k)) = true
  | [], vs, _, h => nomatch h
  | a :: ks, [], h, _ => by simp at h
  | a :: ks, u :: vs, h, hm => by
    rw [List.zip_cons_cons, List.any_cons]
    rcases List.mem_cons.mp hm with e | e
    · simp [e]
    · rw [any_zip (by simpa using h) e, Bool.or_true]
def zdixK (i : Nat) (k : Str) : Den := fun m => match m.e[i]? with
  | some (.val d) => ofO (dixD d (.str k)) m
  | some (.box (.k ks) xs) => ofO (lookV (.inr k) ks xs) m
  | _ => .bad
def zputK (i : Nat) (k : Str) (f : Den) : DenS := fun m => (f m).thenS fun d m1 => match m1.e[i]? with
  | some (.box (.k ks) xs) => if (ks.any fun a => decide (a = (Sum.inr k : Key))) = true ∧ ks.length = xs.length ∧ small ks.length = true then .nx ⟨m1.e.set i (.box (.k ks) (setV (.inr k) d ks xs)), m1.S⟩ else .bad
  | _ => .bad
section
variable {Γ : Gm} {B : Bs} {W : WX} {X : Cx} {f : Den} {pos : Pos} {value : Expr}
theorem z_dixK {kr i j : Nat} {x k : Str} {p kp : Pos} (hr : Room kr X.A) (hN : X.N[i]? = some x) (hv : Vis X.env.scope x) (hd : (x == ("__debug__" : Str)) = false) (hcd : (x == ("__classdict__" : Str)) = false) : PE X (.Subscript (.Name x p) (.Constant (.str k) j kp) pos) (tE Γ B W (zdixK i k)) := by
  refine PE.imp (pe_dget (by have := hr.un; omega) (pe_var hN hv hd hcd) pe_str (fun _ _ => rfl)) fun σ H Q ⟨m, z, rl, h⟩ => ?_
  unfold zdixK at h
  split at h
  · rename_i d e
    have hl : i < σ.length := by rw [← rl.len]; exact (List.getElem?_eq_some_iff.mp e).1
    obtain ⟨v, ev, rp⟩ := rl.slot i _ _ e (List.getElem?_eq_getElem hl)
    refine ⟨v, by rw [List.getElem?_eq_getElem hl, ev], ?_⟩
    cases ed : dixD d (.str k) with
    | none => rw [ed] at h; exact h.elim
    | some c =>
      rw [ed] at h
      cases d with
      | dct ks ds =>
        have el : lookK (.inr k) ks ds = some c := ed
        simp only [Rep] at rp
        obtain ⟨pa, rfl, ⟨kvs, k1, rfl, k3⟩ | ⟨kvs, k0, k1, rfl, k3⟩⟩ := rp
        · obtain ⟨u, h3, h4⟩ := lookK_rep k3 el
          refine ⟨pa, u, rfl, ?_, h z u H (Ext.refl _) rl h4⟩
          rw [← h3]
          exact DGet.k (k := .inr k) (rl.rf.sub _ _ k1)
        · rw [lookK_tup] at el; cases el
      | _ => cases ed
  · rename_i ks xs e
    obtain ⟨a, vs, k1, k2, k3, _⟩ := box_at rl e
    refine ⟨.ref a, k1, ?_⟩
    cases ed : lookV (.inr k) ks xs with
    | none => rw [ed] at h; exact h.elim
    | some c =>
      rw [ed] at h
      obtain ⟨u, h3, h4⟩ := lookV_rep k3 ed
      refine ⟨a, u, rfl, ?_, h z u H (Ext.refl _) rl h4⟩
      rw [← h3]
      exact DGet.k (k := .inr k) k2
  · exact h.elim
theorem z_putK {kr i j : Nat} {x k : Str} {p kp pos' : Pos} (hr : Room kr X.A) (hN : X.N[i]? = some x) (hv : Vis X.env.scope x) (hd : (x == ("__debug__" : Str)) = false) (hcd : (x == ("__classdict__" : Str)) = false) (he : PE X value (tE Γ B W f))
    (hs : swapsWith value (some (.Subscript (.Name x p) (.Constant (.str k) j kp) pos')) pos.line X.env = pure false) : PS X (.Assign [.Subscript (.Name x p) (.Constant (.str k) j kp) pos'] value pos) (tS Γ B W (zputK i k f)) := by
  refine PS.imp (ps_dput (by have := hr.un; omega) (pe_var hN hv hd hcd) pe_str he hs) fun E σ H ⟨m, z, rl, h⟩ => ?_
  refine bndS rl h fun z1 d m1 v H1 e1 r1 p1 h1 => ?_
  split at h1
  · rename_i ks xs e
    split at h1
    · rename_i hc
      obtain ⟨c1, c2, c3⟩ := hc
      obtain ⟨a, vs, k1, k2, k3, _⟩ := box_at r1 e
      have hl : ks.length = vs.length := by rw [c2, k3.length]
      have hm : (Sum.inr k : Key) ∈ ks := by
        obtain ⟨b, hb, eb⟩ := List.any_eq_true.mp c1
        rw [← of_decide_eq_true eb]; exact hb
      refine ⟨.ref a, k1, a, _, rfl, DPut.k (k := .inr k) k2 ?_, ?_⟩
      · rw [List.length_zip]
        have := small_lt c3
        omega
      · have ep : putK (ks.zip vs) (.inr k) v = ks.zip (setV (.inr k) v ks vs) := by
          unfold putK
          rw [if_pos (any_zip hl hm), put_zip hl]
        rw [ep]
        exact h1 z1 σ _ (Ext.refl _) (r1.boxWrite (bk' := .k ks) e k1 (setV_rep p1 k3))
    · exact h1.elim
  · exact h1.elim
end
end Z

set_option Elab.async false
set_option linter.all false
set_option maxRecDepth 100000
set_option maxHeartbeats 4000000
/-! Z45: steps for new dicts that a def returns; items of a dict under construction; xs.index(y) of a list -/
namespace Z
open PySem PySem.Spec PyProof.Rows L2 RZ
section
variable {Γ : Gm} {B : Bs} {W : WX} {X : Cx} {e : Expr} {es : List Expr} {f g : Den} {pos p : Pos} {value : Expr}
theorem snewD' {k : M → R (BK × List D)} {gs : M → R (List Sl)} (ha : PE X e (tD Γ B W k)) (hr : ∀ B, PA X es (tAs Γ B W gs)) (hs : starEach (e :: es) X.env = (false, eval e X.env) :: starEach es X.env := by rfl) : PA X (e :: es) (tAs Γ B W (snewD k gs)) := s_newD ha hr hs
theorem qdixK {kr j : Nat} {x k : Str} {kp : Pos} (i : Nat) (hr : Room kr X.A) (hN : X.N[i]? = some x := by rfl) (hv : visB X.env.scope x = true := by rfl) (hd : (x == ("__debug__" : Str)) = false := by decide) (hcd : (x == ("__classdict__" : Str)) = false := by decide) : PE X (.Subscript (.Name x p) (.Constant (.str k) j kp) pos) (tE Γ B W (zdixK i k)) := z_dixK hr hN (visB_ok hv) hd hcd
theorem sputK {kr j : Nat} {x k : Str} {kp pos' : Pos} (i : Nat) (hr : Room kr X.A) (he : PE X value (tE Γ B W f)) (hN : X.N[i]? = some x := by rfl) (hv : visB X.env.scope x = true := by rfl) (hd : (x == ("__debug__" : Str)) = false := by decide) (hcd : (x == ("__classdict__" : Str)) = false := by decide)
    (hs : swapsWith value (some (.Subscript (.Name x p) (.Constant (.str k) j kp) pos')) pos.line X.env = pure false := by rfl) : PS X (.Assign [.Subscript (.Name x p) (.Constant (.str k) j kp) pos'] value pos) (tS Γ B W (zputK i k f)) := z_putK hr hN (visB_ok hv) hd hcd he hs
end
/-! ### xs.index(y) -/
theorem toPL_get : ∀ {xs : List D} {ps : List PyData} {i : Nat} {z : PyData}, toPL xs = some ps → ps[i]? = some z → ∃ x, xs[i]? = some x ∧ toP x = some z
  | [], ps, i, z, h, e => by
    simp only [toPL, Option.some.injEq] at h
    subst h
    simp at e
  | x :: xs, ps, i, z, h, e => by
    simp only [toPL, Option.bind_eq_some_iff, Option.map_eq_some_iff] at h
    obtain ⟨q, e1, qs, e2, rfl⟩ := h
    cases i with
    | zero => simp at e; subst e; exact ⟨x, rfl, e1⟩
    | succ i => simpa using toPL_get (i := i) e2 (by simpa using e)
theorem toPL_at : ∀ {xs : List D} {ps : List PyData} {i : Nat} {x : D}, toPL xs = some ps → xs[i]? = some x → ∃ z, ps[i]? = some z ∧ toP x = some z
  | [], ps, i, z, h, e => by simp at e
  | y :: xs, ps, i, x, h, e => by
    simp only [toPL, Option.bind_eq_some_iff, Option.map_eq_some_iff] at h
    obtain ⟨q, e1, qs, e2, rfl⟩ := h
    cases i with
    | zero => simp at e; subst e; exact ⟨q, rfl, e1⟩
    | succ i => simpa using toPL_at (i := i) e2 (by simpa using e)
def indexL (xs : List D) (e : D) : Option D := if (okD e && okD (.lst xs)) = true then (xs.findIdx? fun y => eqb y e).map fun j => .int (j : Nat) else none
def zindex (f g : Den) : Den := fun m => (f m).bind fun d m1 => match d with
  | .lst xs => (g m1).bind fun e m2 => ofO (indexL xs e) m2
  | _ => .bad
section
variable {Γ : Gm} {B : Bs} {W : WX} {X : Cx} {o e : Expr} {f g : Den} {pos : Pos}
theorem qindex {k : Nat} {apos : Pos} (hr : Room k X.A) (ho : PE X o (tE Γ B W f)) (he : PE X e (tE Γ B W g)) (hK : X.K = Γ.K := by rfl) (hbase : attributeBase o "index" X.env (eval o X.env) = eval o X.env := by rfl)
    (hfew : ((backTo pos (starEach [e] X.env)).all (fun x => !x.1) && (backToKw pos (keywordEach [] X.env)).all (fun x => x.1.isSome)
      && decide (([e] : List Expr).length + ([] : List Keyword).length + (if ([] : List Keyword).isEmpty then 0 else 1) < 30)) = true := by rfl)
    (hline : (apos.endLine == pos.line) = true := by rfl) (hs : starEach [e] X.env = (false, eval e X.env) :: starEach [] X.env := by rfl) (hplain : (backTo pos (starEach [] X.env)).any (·.1) = false := by rfl) :
    PE X (.Call (.Attribute o "index" apos) [e] [] pos) (tE Γ B W (zindex f g)) := by
  refine PE.imp (pe_bm PySem.F.plainAttrs_list PySem.F.slot_list_index PySem.F.type_list_index (mt_indexD (by have := hr.un; omega)) ho (z_acons he z_anil hs) hbase hfew hline hs hplain) fun σ H Q ⟨m, z, rl, h⟩ => ?_
  refine bnd rl h fun z1 d m1 x H1 e1 r1 p1 h1 => ?_
  cases d with
  | lst xs =>
    obtain ⟨a, vs, rfl, k1, k2⟩ := Rep.lst.mp p1
    refine ⟨.inl ⟨rfl, vs, SqL.of (r1.rf.sub _ _ k1)⟩, ?_⟩
    have h1 : Po Γ B W (rpE Γ) σ z1 ((g m1).bind fun e m2 => ofO (indexL xs e) m2) Q := h1
    refine ⟨m1, z1, r1, ?_⟩
    show Po Γ B W (rpA Γ) σ z1 ((g m1).bind fun d m2 => (znil m2).bind fun ds m3 => R.ok (d :: ds) m3) _
    cases e0 : g m1 with
    | bad => rw [e0] at h1; exact h1
    | exc c d m2 => rw [e0] at h1; exact h1
    | ok d m2 =>
      rw [e0] at h1
      intro z2 us H2 x2 r2 p2
      obtain ⟨y, rfl, p3⟩ := p2.one
      have h1 : Po Γ B W (rpE Γ) σ z1 (ofO (indexL xs d) m2) Q := h1
      cases ec : indexL xs d with
      | none => rw [ec] at h1; exact h1.elim
      | some c =>
        rw [ec] at h1
        unfold indexL at ec
        split at ec
        · rename_i ok
          simp only [Bool.and_eq_true] at ok
          obtain ⟨j, hj, rfl⟩ := Option.map_eq_some_iff.mp ec
          obtain ⟨pd, ed, sd⟩ := okD_of ok.1
          obtain ⟨pl, el, sl⟩ := okD_of ok.2
          have el0 := el
          simp only [toP, Option.map_eq_some_iff] at el
          obtain ⟨ps, e3, rfl⟩ := el
          obtain ⟨hjl, hj1, hj2⟩ := List.findIdx?_eq_some_iff_getElem.mp hj
          obtain ⟨zj, hz, tz⟩ := toPL_at e3 (List.getElem?_eq_getElem hjl)
          have q1 : Rep Γ z2 (.lst xs) (.ref a) := Rep.mono x2 _ p1
          refine ⟨a, y, pd, ps, j, zj, rfl, rfl, ?_, ?_, sl, sd, hz, ?_, ?_, h1 z2 _ H2 x2 r2 (Rep.int.mpr rfl)⟩
          · rw [hK]; exact Rep.dp r2.rf.sub (.lst xs) _ _ q1 el0
          · rw [hK]; exact Rep.dp r2.rf.sub _ _ _ p3 ed
          · rw [← eqb_eqv _ _ _ _ tz ed]; exact hj1
          · intro i z' hi hz'
            obtain ⟨x', hx', tx'⟩ := toPL_get e3 hz'
            obtain ⟨hl', rfl⟩ := List.getElem?_eq_some_iff.mp hx'
            rw [← eqb_eqv _ _ _ _ tx' ed]
            exact Bool.eq_false_iff.mpr (hj2 i hi)
        · cases ec
  | _ => exact h1.elim
end
/-! ### steps -/
section
variable {m : M} {f g : Den} {fs : DenL} {Q : D → M → Prop} {E : Nat → D → M → Prop} {N : M → Prop} {T : D → M → Prop}
theorem wcallF {φ : Fn} {Q2 : BK × List D → M → Prop} (q : RE (fs m) (fun ds m1 => Res (φ ds m1.S) (fun d S => ∃ r, dOf d = some r ∧ Q2 (.k r.1, r.2) ⟨m1.e, S⟩) (fun c d S => E c d ⟨m1.e, S⟩)) E) : RE (zcallF φ [] fs m) Q2 E := rbind (q.mono (fun ds m1 q => by
  show RE (backR2 (φ (ds ++ []) m1.S) m1) Q2 E
  rw [List.append_nil]
  cases e : φ ds m1.S with
  | ok d S =>
    rw [e] at q
    obtain ⟨r, h1, h2⟩ := q
    show RE (match dOf d with
      | some q => R.ok (BK.k q.1, q.2) ⟨m1.e, S⟩
      | none => R.bad) Q2 E
    rw [h1]
    exact h2
  | exc c d S => rw [e] at q; exact q
  | bad => rw [e] at q; exact q) fun _ _ _ q => q)
theorem wsnewD {QS : List Sl → M → Prop} {k : M → R (BK × List D)} {gs : M → R (List Sl)} (q : RE (k m) (fun x m1 => RE (gs m1) (fun ss m2 => QS (.box x.1 x.2 :: ss) m2) E) E) : RE (snewD k gs m) QS E := rbind (q.mono (fun _ _ q => rbind q) fun _ _ _ q => q)
theorem wdixKV {i : Nat} {k : Str} {d c : D} (h : m.e[i]? = some (.val d)) (hd : dixD d (.str k) = some c) (q : Q c m) : RE (zdixK i k m) Q E := by unfold zdixK; rw [h]; exact rofO ⟨c, hd, q⟩
theorem wdixKB {i : Nat} {k : Str} {ks : List Key} {xs : List D} {c : D} (h : m.e[i]? = some (.box (.k ks) xs)) (hd : lookV (.inr k) ks xs = some c) (q : Q c m) : RE (zdixK i k m) Q E := by unfold zdixK; rw [h]; exact rofO ⟨c, hd, q⟩
theorem wputK {i : Nat} {k : Str} (q : RE (f m) (fun d m1 => ∃ ks xs, m1.e[i]? = some (.box (.k ks) xs) ∧ ((ks.any fun a => decide (a = (Sum.inr k : Key))) = true ∧ ks.length = xs.length ∧ small ks.length = true) ∧ N ⟨m1.e.set i (.box (.k ks) (setV (.inr k) d ks xs)), m1.S⟩) E) : RT (zputK i k f m) N T E := by
  refine rthen (q.mono (fun d m1 ⟨ks, xs, h1, h2, h3⟩ => ?_) fun _ _ _ q => q)
  rw [h1]
  show RT (if _ then _ else _) _ _ _
  rw [if_pos h2]
  exact h3
theorem windex (q : RE (f m) (fun d m1 => ∃ xs, d = .lst xs ∧ RE (g m1) (fun e m2 => ∃ c, indexL xs e = some c ∧ Q c m2) E) E) : RE (zindex f g m) Q E := rbind (q.mono (fun d m1 ⟨xs, e, q⟩ => by subst e; exact rbind (q.mono (fun _ _ q => rofO q) fun _ _ _ q => q)) fun _ _ _ q => q)
end
theorem exLs {xs : List D} {Q : List D → Prop} (q : Q xs) : ∃ ys, D.lst xs = .lst ys ∧ Q ys := ⟨xs, rfl, q⟩
end Z

set_option Elab.async false
set_option linter.all false
set_option maxRecDepth 100000
set_option maxHeartbeats 2000000
namespace Z
open PySem PySem.Spec PyProof.Rows L2 RZ
/-! printed by gen.py: the text -/
def topS (i : Nat) : Stmt := PySem.Challenge.pw_tiesums_k08_ties_put_in_and_taken_out.main.body.getD i (.Pass ⟨0, 0, 0, 0⟩)
def clsBody (s : Stmt) : List Stmt := match s with
  | .ClassDef _ _ _ b _ _ _ _ _ _ _ => b
  | _ => []
abbrev s__law_cells : Stmt := topS 54
abbrev N__law_cells : List Str := ["_law_script", "_law_most"]
def g__law_cells : DenS :=
  zseq (zret (frz (zlistRg (zcb maxD (zcons (zk (.int 1)) (zcons (zcb minD (zcons (zvar 1) (zcons (zcb lenD (zcons (zvar 0) znil)) znil))) znil))))))
  znext
def f__law_cells : Fn := bodyFn N__law_cells 2 g__law_cells
abbrev s__law_pot : Stmt := topS 38
abbrev N__law_pot : List Str := ["_law_script", "_law_place", "_law_cell", "_law_own", "_law_small"]
def g__law_pot : DenS :=
  zseq (zasg (zite (zop ltD (zvar 1) (zcb lenD (zcons (zvar 0) znil))) (zidx (zvar 0) (zvar 1)) (zop addD (zop mulZ (zk (.int 481)) (zvar 1)) (zk (.int 147)))) (gset 2))
  (zseq (zasg (zop mulZ (zop modD (zcb intD (zcons (zcb absD (zcons (zvar 2) znil)) znil)) (zop powD (zop powD (zk (.int 10)) (zk (.int 60))) (zk (.int 5)))) (zcb intD (zcons (zop geD (zcb absD (zcons (zvar 2) znil)) (zop powD (zk (.int 10)) (zk (.int 18)))) znil))) (gset 3))
  (zseq (zasg (zop modD (zcb intD (zcons (zvar 2) znil)) (zk (.int 2305843009213693951))) (gset 4))
  (zseq (zret (celD (zlstF (zcons (zvar 3) (zcons (zop modD (zcb intD (zcons (zop addD (zop addD (zop mulZ (zvar 4) (zk (.int 75109))) (zop mulZ (zop mulZ (zk (.int 7319)) (zvar 1)) (zvar 1))) (zk (.int 347))) znil)) (zk (.int 2305843009213693921))) (zcons (zk (.int 0)) znil))))))
  znext)))
def f__law_pot : Fn := bodyFn N__law_pot 2 g__law_pot
abbrev s__law_take : Stmt := topS 39
abbrev N__law_take : List Str := ["_law_pot_here", "_law_upto", "_law_prime", "_law_blend", "_law_digit"]
def g__law_take : DenS :=
  zseq (zif (zop gtD (zidx (zvar 0) (zk (.int 0))) (zk (.int 0))) (zseq (zasg (zop modD (zcb intD (zcons (zidx (zvar 0) (zk (.int 0))) znil)) (zvar 1)) (gset 4))
  (zseq (zsetItem (zop fdivD (zidx (zvar 0) (zk (.int 0))) (zvar 1)) (zvar 0) (zk (.int 0)))
  (zseq (zret (zvar 4))
  znext))) znext)
  (zseq (zsetItem (zop addD (zidx (zvar 0) (zk (.int 2))) (zk (.int 1))) (zvar 0) (zk (.int 2)))
  (zseq (zasg (zidx (frz (zlstF (zcons (zk (.int 2147483647)) (zcons (zk (.int 2147483629)) (zcons (zk (.int 2147483587)) (zcons (zk (.int 2147483579)) (zcons (zk (.int 2147483563)) znil))))))) (zop modD (zcb intD (zcons (zidx (zvar 0) (zk (.int 2))) znil)) (zk (.int 5)))) (gset 2))
  (zseq (zasg (zop modD (zcb intD (zcons (zop powD (zcb intD (zcons (zop addD (zop addD (zidx (zvar 0) (zk (.int 1))) (zop mulZ (zop mulZ (zk (.int 98644)) (zidx (zvar 0) (zk (.int 2)))) (zidx (zvar 0) (zk (.int 2))))) (zk (.int 149))) znil)) (zk (.int 3))) znil)) (zvar 2)) (gset 3))
  (zseq (zasg (zop modD (zcb intD (zcons (zop mulZ (zvar 3) (zop addD (zop modD (zcb intD (zcons (zvar 3) znil)) (zk (.int 10333))) (zop mulZ (zk (.int 211)) (zidx (zvar 0) (zk (.int 2)))))) znil)) (zk (.int 2305843009213693907))) (gset 3))
  (zseq (zret (zop modD (zcb intD (zcons (zop fdivD (zvar 3) (zk (.int 163))) znil)) (zvar 1)))
  znext)))))
def f__law_take : Fn := bodyFn N__law_take 2 g__law_take
abbrev s__law_some : Stmt := topS 47
abbrev N__law_some : List Str := ["_law_pot_here", "_law_pool", "_law_many", "_law_lap", "_law_rest", "_law_found"]
def g__law_some : DenS :=
  zseq (zpar [4, 5] (snew (zlistF (zcons (zvar 1) znil)) (snew (zlstF znil) snil)))
  (zseq (zfor (zrange (zcons (zvar 2) znil)) (gset 3) (zseq (zexpr (zbld 5 (zcons (zbld 4 (zcons (zcall f__law_take [] (zcons (zvar 0) (zcons (zlenP 4) znil))) znil) popK) znil) appendK))
  znext))
  (zseq (zret (zvar 5))
  znext))
def f__law_some : Fn := bodyFn N__law_some 3 g__law_some
abbrev s__law_names : Stmt := topS 48
abbrev N__law_names : List Str := ["_law_pot_here", "_law_many", "_law_pool"]
def g__law_names : DenS :=
  zseq (zasg (frz (zlstF (zcons (zk (.str "a")) (zcons (zk (.str "b")) (zcons (zk (.str "c")) (zcons (zk (.str "d")) (zcons (zk (.str "m")) (zcons (zk (.str "places")) (zcons (zk (.str "tie")) (zcons (zk (.str "read")) (zcons (zk (.str "watch")) (zcons (zk (.str "survey")) (zcons (zk (.str "zzzzzzzz")) (zcons (zk (.str "cost")) (zcons (zk (.str "told")) (zcons (zk (.str "undo")) znil)))))))))))))))) (gset 2))
  (zseq (zret (zcall f__law_some [] (zcons (zvar 0) (zcons (zvar 2) (zcons (zvar 1) znil)))))
  znext)
def f__law_names : Fn := bodyFn N__law_names 2 g__law_names
abbrev s__law_pairs : Stmt := topS 49
abbrev N__law_pairs : List Str := ["_law_places", "_law_found", "_law_at", "_law_one", "_law_other"]
def g__law_pairs : DenS :=
  zseq (zsetB 1 (zlstF znil))
  (zseq (zfor (zenum (zcons (zvar 0) znil)) (gtup 2 (gcons (gset 2) (gcons (gset 3) gnil))) (zseq (zexpr (zbld 1 (zcons (frz (zcompF (zseqI (zslice (zvar 0) (osome (zop addD (zvar 2) (zk (.int 1)))) onone)) (gset 4) yes (ztup (zcons (zvar 3) (zcons (zvar 4) znil))) [4])) znil) extendK))
  znext))
  (zseq (zret (zvar 1))
  znext))
def f__law_pairs : Fn := bodyFn N__law_pairs 1 g__law_pairs
abbrev s__law_of : Stmt := topS 50
abbrev N__law_of : List Str := ["_law_pot_here", "_law_some_here"]
def g__law_of : DenS :=
  zseq (zret (zidx (zvar 1) (zcall f__law_take [] (zcons (zvar 0) (zcons (zcb lenD (zcons (zvar 1) znil)) znil)))))
  znext
def f__law_of : Fn := bodyFn N__law_of 2 g__law_of
abbrev s__law_made : Stmt := topS 43
abbrev N__law_made : List Str := ["_law_places", "_law_watchers", "_law_ties", "_law_one"]
def g__law_made : DenS :=
  zseq (zret (zdct ["places", "watchers", "ties"] (zcons (frz (zlistF (zcons (zvar 0) znil))) (zcons (frz (zcompF (zseqI (zvar 0)) (gset 3) (toB (zop inX (zvar 3) (zvar 1))) (zvar 3) [3])) (zcons (frz (zlistF (zcons (zvar 2) znil))) znil)))))
  znext
def f__law_made : Fn := bodyFn N__law_made 3 g__law_made
abbrev s__law_lore : Stmt := topS 51
abbrev N__law_lore : List Str := ["_law_pot_here", "_law_few", "_law_most", "_law_ties", "_law_places", "_law_rest", "_law_room", "_law_found", "_law_watchers", "_law_pairs_here", "_law_at", "_law_other", "_law_pair"]
def g__law_lore : DenS :=
  zseq (zasg (zcall f__law_names [] (zcons (zvar 0) (zcons (zop addD (zvar 1) (zcall f__law_take [] (zcons (zvar 0) (zcons (zop addD (zop subD (zvar 2) (zvar 1)) (zk (.int 1))) znil)))) znil))) (gset 4))
  (zseq (zpar [9, 7] (sval (zcall f__law_pairs [] (zcons (zvar 4) znil)) (snew (zlstF znil) snil)))
  (zseq (zif (zop gtD (zcall f__law_take [] (zcons (zvar 0) (zcons (zk (.int 4)) znil))) (zk (.int 0))) (zseq (zfor (zenum (zcons (zslice (zvar 4) (osome (zk (.int 1))) onone) znil)) (gtup 2 (gcons (gset 10) (gcons (gset 11) gnil))) (zseq (zexpr (zbld 7 (zcons (ztup (zcons (zcall f__law_of [] (zcons (zvar 0) (zcons (zslice (zvar 4) onone (osome (zop addD (zvar 10) (zk (.int 1))))) znil))) (zcons (zvar 11) znil))) znil) appendK))
  znext))
  znext) znext)
  (zseq (zasg (frz (zcompF (zseqI (zvar 9)) (gset 12) (toB (zninB 7 (zvar 12))) (zvar 12) [12])) (gset 5))
  (zseq (zasg (zcb maxD (zcons (zk (.int 0)) (zcons (zop subD (zcb minD (zcons (zvar 3) (zcons (zk (.int 14)) znil))) (zlenP 7)) znil))) (gset 6))
  (zseq (zasg (zop addD (zvar 7) (zcall f__law_some [] (zcons (zvar 0) (zcons (zvar 5) (zcons (zcb minD (zcons (zcb lenD (zcons (zvar 5) znil)) (zcons (zcall f__law_take [] (zcons (zvar 0) (zcons (zop addD (zvar 6) (zk (.int 1))) znil))) znil))) znil))))) (gset 7))
  (zseq (zasg (zite (zop neX (zvar 7) (frz (zlstF znil))) (zvar 7) (zslice (zvar 9) onone (osome (zk (.int 1))))) (gset 7))
  (zseq (zasg (zcall f__law_some [] (zcons (zvar 0) (zcons (zvar 4) (zcons (zop addD (zk (.int 2)) (zcall f__law_take [] (zcons (zvar 0) (zcons (zop subD (zcb lenD (zcons (zvar 4) znil)) (zk (.int 1))) znil)))) znil)))) (gset 8))
  (zseq (zret (zcall f__law_made [] (zcons (zvar 4) (zcons (zvar 8) (zcons (zcall f__law_some [] (zcons (zvar 0) (zcons (zvar 7) (zcons (zlenP 7) znil)))) znil)))))
  znext))))))))
def f__law_lore : Fn := bodyFn N__law_lore 4 g__law_lore
abbrev s_is_name : Stmt := topS 18
abbrev N_is_name : List Str := ["word", "sign"]
def g_is_name : DenS :=
  zseq (zret (zand (zchain leD leD (zk (.int 1)) (zcb lenD (zcons (zvar 0) znil)) (zk (.int 8))) (zcb allD (zcons (frz (zcompF (zseqI (zvar 0)) (gset 1) yes (zop inX (zvar 1) (zk (.str "abcdefghijklmnopqrstuvwxyz"))) [1])) znil))))
  znext
def f_is_name : Fn := bodyFn N_is_name 1 g_is_name
abbrev s_places_in : Stmt := topS 27
abbrev N_places_in : List Str := ["line", "word", "names", "name"]
def g_places_in : DenS :=
  zseq (zasg (zsplit (zvar 0) (zk (.str " "))) (gstar (gcons (gset 1) (gcons (gset 2) gnil))))
  (zseq (zif (zor (zop neX (zvar 1) (zk (.str "places"))) (zor (znot (zchain leD leD (zk (.int 3)) (zcb lenD (zcons (zvar 2) znil)) (zk (.int 8)))) (znot (zcb allD (zcons (frz (zcompF (zseqI (zvar 2)) (gset 3) yes (zcall f_is_name [] (zcons (zvar 3) znil)) [3])) znil))))) (zseq (zret (zk .non))
  znext) znext)
  (zseq (zret (zite (zop eqX (zlenSet (zvar 2)) (zcb lenD (zcons (zvar 2) znil))) (zcb tupleD (zcons (zvar 2) znil)) (zk .non)))
  znext))
def f_places_in : Fn := bodyFn N_places_in 1 g_places_in
abbrev s_is_word : Stmt := topS 17
abbrev N_is_word : List Str := ["value", "some"]
def g_is_word : DenS :=
  zseq (zret (zand (zisi "str" (zvar 0)) (zop inX (zvar 0) (zvar 1))))
  znext
def f_is_word : Fn := bodyFn N_is_word 2 g_is_word
abbrev s_in_sequence : Stmt := topS 28
abbrev N_in_sequence : List Str := ["places", "some", "place"]
def g_in_sequence : DenS :=
  zseq (zret (zcb tupleD (zcons (frz (zcompF (zseqI (zvar 0)) (gset 2) (toB (zop inX (zvar 2) (zvar 1))) (zvar 2) [2])) znil)))
  znext
def f_in_sequence : Fn := bodyFn N_in_sequence 2 g_in_sequence
abbrev s_is_lot : Stmt := topS 29
abbrev N_is_lot : List Str := ["places", "value", "one"]
def g_is_lot : DenS :=
  zseq (zif (zor (znot (zisi "tuple" (zvar 1))) (znot (zcb allD (zcons (frz (zcompF (zseqI (zvar 1)) (gset 2) yes (zcall f_is_word [] (zcons (zvar 2) (zcons (zvar 0) znil))) [2])) znil)))) (zseq (zret (zk (.bl false)))
  znext) znext)
  (zseq (zret (zop eqX (zcall f_in_sequence [] (zcons (zvar 0) (zcons (zvar 1) znil))) (zvar 1)))
  znext)
def f_is_lot : Fn := bodyFn N_is_lot 2 g_is_lot
abbrev s_watchers_in : Stmt := topS 30
abbrev N_watchers_in : List Str := ["places", "line", "lot", "word", "names"]
def g_watchers_in : DenS :=
  zseq (zasg (zsplit (zvar 1) (zk (.str " "))) (gstar (gcons (gset 3) (gcons (gset 4) gnil))))
  (zseq (zasg (zcb tupleD (zcons (zvar 4) znil)) (gset 2))
  (zseq (zret (zite (zand (zop eqX (zvar 3) (zk (.str "watchers"))) (zand (zop geD (zcb lenD (zcons (zvar 2) znil)) (zk (.int 2))) (zcall f_is_lot [] (zcons (zvar 0) (zcons (zvar 2) znil))))) (zvar 2) (zk .non)))
  znext))
def f_watchers_in : Fn := bodyFn N_watchers_in 2 g_watchers_in
abbrev s_tie_in : Stmt := topS 31
abbrev N_tie_in : List Str := ["places", "line", "pair", "word", "names"]
def g_tie_in : DenS :=
  zseq (zasg (zsplit (zvar 1) (zk (.str " "))) (gstar (gcons (gset 3) (gcons (gset 4) gnil))))
  (zseq (zasg (zcb tupleD (zcons (zvar 4) znil)) (gset 2))
  (zseq (zret (zite (zand (zop eqX (zvar 3) (zk (.str "tie"))) (zand (zop eqX (zcb lenD (zcons (zvar 2) znil)) (zk (.int 2))) (zcall f_is_lot [] (zcons (zvar 0) (zcons (zvar 2) znil))))) (zvar 2) (zk .non)))
  znext))
def f_tie_in : Fn := bodyFn N_tie_in 2 g_tie_in
abbrev s_Net___init__ : Stmt := (clsBody (topS 33)).getD 1 (.Pass ⟨0, 0, 0, 0⟩)
abbrev N_Net___init__ : List Str := ["self", "text", "lines", "places", "watchers", "ties", "number", "line", "pair"]
def g_Net___init__ : DenS :=
  zseqN (zif (znot (zisi "str" (zvar 1))) (zseq (zraise 1 (zk (.int 0)))
  znext) znext)
  (zseqN (zasg (zsplit (zvar 1) (zk (.str "\n"))) (gset 2))
  (zseqN (zasg (zcall f_places_in [] (zcons (zidx (zvar 2) (zk (.int 0))) znil)) (gset 3))
  (zseqN (zif (zop isND (zvar 3) (zk .non)) (zseq (zraise 1 (zk (.int 1)))
  znext) znext)
  (zseqN (zasg (zite (zop gtD (zcb lenD (zcons (zvar 2) znil)) (zk (.int 1))) (zcall f_watchers_in [] (zcons (zvar 3) (zcons (zidx (zvar 2) (zk (.int 1))) znil))) (zk .non)) (gset 4))
  (zseqN (zif (zop isND (zvar 4) (zk .non)) (zseq (zraise 1 (zk (.int 2)))
  znext) znext)
  (zseqN (zsetB 5 (zlstF znil))
  (zseqN (zfor (zenum (zcons (zslice (zvar 2) (osome (zk (.int 2))) onone) znil)) (gtup 2 (gcons (gset 6) (gcons (gset 7) gnil))) (zseq (zasg (zcall f_tie_in [] (zcons (zvar 3) (zcons (zvar 7) znil))) (gset 8))
  (zseq (zif (zor (zop isND (zvar 8) (zk .non)) (zor (zinB 5 (zvar 8)) (zop eqX (zlenP 5) (zk (.int 14))))) (zseq (zraise 1 (zop addD (zop addD (zvar 6) (zk (.int 2))) (zk (.int 1))))
  znext) znext)
  (zseq (zexpr (zbld 5 (zcons (zvar 8) znil) appendK))
  znext))))
  (zseqN (zif (zop eqX (zvar 5) (frz (zlstF znil))) (zseq (zraise 1 (zop addD (zk (.int 2)) (zk (.int 1))))
  znext) znext)
  (zblk (zfld1 1 (zvar 1) (zfld1 0 (zvar 3) (zfld1 3 (zvar 4) (zfld1 2 (zcb tupleD (zcons (zvar 5) znil)) (zmade 0))))))))))))))
def f_Net___init__ : Fn := initFn ["text", "lines", "places", "watchers", "ties", "number", "line", "pair"] 1 g_Net___init__
abbrev s__law_text : Stmt := topS 45
abbrev N__law_text : List Str := ["_law_lore_here", "_law_rows", "_law_one", "_law_other"]
def g__law_text : DenS :=
  zseq (zasg (frz (zlstF (zcons (zjoin (zk (.str " ")) (zop addD (frz (zlstF (zcons (zk (.str "places")) znil))) (zop dixD (zvar 0) (zk (.str "places"))))) (zcons (zjoin (zk (.str " ")) (zop addD (frz (zlstF (zcons (zk (.str "watchers")) znil))) (zop dixD (zvar 0) (zk (.str "watchers"))))) znil)))) (gset 1))
  (zseq (zret (zjoin (zk (.str "\n")) (zop addD (zvar 1) (frz (zcompF (zseqI (zop dixD (zvar 0) (zk (.str "ties")))) (gtup 2 (gcons (gset 2) (gcons (gset 3) gnil))) yes (zop addD (zop addD (zop addD (zk (.str "tie ")) (zvar 2)) (zk (.str " "))) (zvar 3)) [2, 3])))))
  znext)
def f__law_text : Fn := bodyFn N__law_text 1 g__law_text
abbrev s__law_net : Stmt := topS 52
abbrev N__law_net : List Str := ["_law_lore_here"]
def g__law_net : DenS :=
  zseq (zret (zcall f_Net___init__ [] (zcons (zcall f__law_text [] (zcons (zvar 0) znil)) znil)))
  znext
def f__law_net : Fn := bodyFn N__law_net 1 g__law_net
abbrev s__law_odd : Stmt := topS 53
abbrev N__law_odd : List Str := ["_law_pot_here", "_law_some_here"]
def g__law_odd : DenS :=
  zseq (zasg (frz (zlstF (zcons (zk .non) (zcons (zk (.bl true)) (zcons (zk (.bl false)) (zcons (zk (.int 0)) (zcons (zk (.int 1)) (zcons (zneg (zk (.int 1))) (zcons (zk (.int 7)) (zcons (zop powD (zk (.int 10)) (zk (.int 8))) (zcons (zk (.str "")) (zcons (zk (.str "a")) (zcons (zk (.str "nosuch")) (zcons (zk (.str "told")) (zcons (ztup znil) (zcons (frz (zlstF znil)) (zcons (zk (.dct [] [])) (zcons (ztup (zcons (zk (.int 0)) znil)) (zcons (ztup (zcons (ztup znil) znil)) (zcons (frz (zlstF (zcons (zk (.int 0)) znil))) (zcons (ztup (zcons (zk (.int 1)) (zcons (zk (.int 0)) znil))) znil))))))))))))))))))))) (gset 1))
  (zseq (zasg (zop addD (zvar 1) (frz (zlstF (zcons (ztup (zcons (zk (.str "a")) znil)) (zcons (ztup (zcons (zk (.str "a")) (zcons (zk (.str "b")) znil))) (zcons (ztup (zcons (zk (.int 1)) (zcons (zk (.int 2)) znil))) (zcons (ztup (zcons (zk (.int 2)) (zcons (zk (.int 4)) znil))) (zcons (ztup (zcons (zk (.int 0)) (zcons (zk (.int 1)) znil))) (zcons (ztup (zcons (ztup (zcons (zk (.int 1)) (zcons (zk (.int 1)) znil))) znil)) (zcons (ztup (zcons (zk .non) znil)) (zcons (zdct ["a"] (zcons (zk (.int 1)) znil)) (zcons (zk (.str "A")) (zcons (ztup (zcons (zk (.str "told")) (zcons (ztup znil) znil))) (zcons (zk (.str "1")) znil)))))))))))))) (gset 1))
  (zseq (zret (zcall f__law_of [] (zcons (zvar 0) (zcons (zvar 1) znil))))
  znext))
def f__law_odd : Fn := bodyFn N__law_odd 1 g__law_odd
abbrev s_check_place : Stmt := topS 34
abbrev N_check_place : List Str := ["places", "value"]
def g_check_place : DenS :=
  zseq (zif (znot (zcall f_is_word [] (zcons (zvar 1) (zcons (zvar 0) znil)))) (zseq (zraise 2 (zvar 1))
  znext) znext)
  znext
def f_check_place : Fn := bodyFn N_check_place 2 g_check_place
abbrev s_pair_of : Stmt := topS 35
abbrev N_pair_of : List Str := ["places", "one", "other"]
def g_pair_of : DenS :=
  zseq (zexpr (zcall f_check_place [] (zcons (zvar 0) (zcons (zvar 1) znil))))
  (zseq (zexpr (zcall f_check_place [] (zcons (zvar 0) (zcons (zvar 2) znil))))
  (zseq (zret (zcall f_in_sequence [] (zcons (zvar 0) (zcons (ztup (zcons (zvar 1) (zcons (zvar 2) znil))) znil))))
  znext))
def f_pair_of : Fn := bodyFn N_pair_of 3 g_pair_of
abbrev s_text_of : Stmt := topS 32
abbrev N_text_of : List Str := ["places", "watchers", "ties", "rows", "pair"]
def g_text_of : DenS :=
  zseq (zasg (frz (zlstF (zcons (zjoin (zk (.str " ")) (frz (zlstF (zcons (zk (.str "places")) (zstar (zvar 0) znil))))) (zcons (zjoin (zk (.str " ")) (frz (zlstF (zcons (zk (.str "watchers")) (zstar (zvar 1) znil))))) znil)))) (gset 3))
  (zseq (zret (zjoin (zk (.str "\n")) (frz (zlstF (zstar (zvar 3) (zstar (frz (zcompF (zseqI (zvar 2)) (gset 4) yes (zjoin (zk (.str " ")) (frz (zlstF (zcons (zk (.str "tie")) (zstar (zvar 4) znil))))) [4])) znil))))))
  znext)
def f_text_of : Fn := bodyFn N_text_of 3 g_text_of
abbrev s_Net_with_tie : Stmt := (clsBody (topS 33)).getD 12 (.Pass ⟨0, 0, 0, 0⟩)
abbrev N_Net_with_tie : List Str := ["self", "one", "other", "pair"]
def g_Net_with_tie : DenS :=
  zseq (zasg (zcall f_pair_of [] (zcons (zfld 0 0 (zvar 0)) (zcons (zvar 1) (zcons (zvar 2) znil)))) (gset 3))
  (zseq (zif (zor (zop eqX (zvar 1) (zvar 2)) (zop inX (zvar 3) (zfld 0 2 (zvar 0)))) (zseq (zraise 6 (ztup (zcons (zvar 1) (zcons (zvar 2) znil))))
  znext) znext)
  (zseq (zif (zop eqX (zcb lenD (zcons (zfld 0 2 (zvar 0)) znil)) (zk (.int 14))) (zseq (zraise 7 (zk (.int 14)))
  znext) znext)
  (zseq (zret (zcall f_Net___init__ [] (zcons (zcall f_text_of [] (zcons (zfld 0 0 (zvar 0)) (zcons (zfld 0 3 (zvar 0)) (zcons (ztup (zstar (zfld 0 2 (zvar 0)) (zcons (zvar 3) znil))) znil)))) znil)))
  znext)))
def f_Net_with_tie : Fn := bodyFn N_Net_with_tie 3 g_Net_with_tie
abbrev s__law_is_place : Stmt := topS 41
abbrev N__law_is_place : List Str := ["_law_lore_here", "_law_value"]
def g__law_is_place : DenS :=
  zseq (zret (zand (zisi "str" (zvar 1)) (zop inX (zvar 1) (zop dixD (zvar 0) (zk (.str "places"))))))
  znext
def f__law_is_place : Fn := bodyFn N__law_is_place 2 g__law_is_place
abbrev s__law_is_refused : Stmt := topS 42
abbrev N__law_is_refused : List Str := ["_law_caught", "_law_word", "_law_value", "_law_kinds"]
def g__law_is_refused : DenS :=
  zseq (zsetD 3 (zdctB ["place", "watches", "few"] (zcons (zisc (istOf [false, false, true, false, false, false, false, false, false]) (zvar 0)) (zcons (zisc (istOf [false, false, false, true, false, false, false, false, false]) (zvar 0)) (zcons (zisc (istOf [false, false, false, false, false, true, false, false, false]) (zvar 0)) znil)))))
  (zseq (zexpr (zupd 3 (zdct ["none", "tie"] (zcons (zisc (istOf [false, false, false, false, true, false, false, false, false]) (zvar 0)) (zcons (zisc (istOf [false, false, false, false, false, false, true, false, false]) (zvar 0)) znil)))))
  (zseq (zexpr (zupd 3 (zdct ["full", "last"] (zcons (zisc (istOf [false, false, false, false, false, false, false, true, false]) (zvar 0)) (zcons (zisc (istOf [false, false, false, false, false, false, false, false, true]) (zvar 0)) znil)))))
  (zseq (zret (zand (zop dixD (zvarX 3) (zvar 1)) (zop eqX (zcb reprX (zcons (zval (zvar 0)) znil)) (zcb reprX (zcons (zvar 2) znil)))))
  znext)))
def f__law_is_refused : Fn := bodyFn N__law_is_refused 3 g__law_is_refused
abbrev s__law_pair_of : Stmt := topS 55
abbrev N__law_pair_of : List Str := ["_law_lore_here", "_law_one", "_law_other", "_law_spots", "_law_place"]
def g__law_pair_of : DenS :=
  zseq (zasg (frz (zcompF (zseqI (ztup (zcons (zvar 1) (zcons (zvar 2) znil)))) (gset 4) yes (zindex (zop dixD (zvar 0) (zk (.str "places"))) (zvar 4)) [4])) (gset 3))
  (zseq (zret (zite (zop ltD (zidx (zvar 3) (zk (.int 0))) (zidx (zvar 3) (zk (.int 1)))) (ztup (zcons (zvar 1) (zcons (zvar 2) znil))) (ztup (zcons (zvar 2) (zcons (zvar 1) znil)))))
  znext)
def f__law_pair_of : Fn := bodyFn N__law_pair_of 3 g__law_pair_of
abbrev s__law_with : Stmt := topS 44
abbrev N__law_with : List Str := ["_law_lore_here", "_law_watchers", "_law_ties"]
def g__law_with : DenS :=
  zseq (zret (zcall f__law_made [] (zcons (zop dixD (zvar 0) (zk (.str "places"))) (zcons (zvar 1) (zcons (zvar 2) znil)))))
  znext
def f__law_with : Fn := bodyFn N__law_with 3 g__law_with
abbrev s_Net_places : Stmt := (clsBody (topS 33)).getD 3 (.Pass ⟨0, 0, 0, 0⟩)
abbrev N_Net_places : List Str := ["self"]
def g_Net_places : DenS :=
  zseq (zret (zfld 0 0 (zvar 0)))
  znext
def f_Net_places : Fn := bodyFn N_Net_places 1 g_Net_places
abbrev s_Net_watchers : Stmt := (clsBody (topS 33)).getD 4 (.Pass ⟨0, 0, 0, 0⟩)
abbrev N_Net_watchers : List Str := ["self"]
def g_Net_watchers : DenS :=
  zseq (zret (zfld 0 3 (zvar 0)))
  znext
def f_Net_watchers : Fn := bodyFn N_Net_watchers 1 g_Net_watchers
abbrev s_Net_ties : Stmt := (clsBody (topS 33)).getD 5 (.Pass ⟨0, 0, 0, 0⟩)
abbrev N_Net_ties : List Str := ["self"]
def g_Net_ties : DenS :=
  zseq (zret (zfld 0 2 (zvar 0)))
  znext
def f_Net_ties : Fn := bodyFn N_Net_ties 1 g_Net_ties
abbrev s_Net_text : Stmt := (clsBody (topS 33)).getD 2 (.Pass ⟨0, 0, 0, 0⟩)
abbrev N_Net_text : List Str := ["self"]
def g_Net_text : DenS :=
  zseq (zret (zfld 0 1 (zvar 0)))
  znext
def f_Net_text : Fn := bodyFn N_Net_text 1 g_Net_text
abbrev s_Net___len__ : Stmt := (clsBody (topS 33)).getD 6 (.Pass ⟨0, 0, 0, 0⟩)
abbrev N_Net___len__ : List Str := ["self"]
def g_Net___len__ : DenS :=
  zseq (zret (zcb lenD (zcons (zfld 0 2 (zvar 0)) znil)))
  znext
def f_Net___len__ : Fn := bodyFn N_Net___len__ 1 g_Net___len__
abbrev s__law_is_as_told : Stmt := topS 46
abbrev N__law_is_as_told : List Str := ["_law_net_here", "_law_lore_here"]
def g__law_is_as_told : DenS :=
  zseq (zif (zop neX (ztup (zcons (zprop 0 f_Net_places (zvar 0)) (zcons (zprop 0 f_Net_watchers (zvar 0)) (zcons (zprop 0 f_Net_ties (zvar 0)) znil)))) (ztup (zcons (zcb tupleD (zcons (zop dixD (zvar 1) (zk (.str "places"))) znil)) (zcons (zcb tupleD (zcons (zop dixD (zvar 1) (zk (.str "watchers"))) znil)) (zcons (zcb tupleD (zcons (zop dixD (zvar 1) (zk (.str "ties"))) znil)) znil))))) (zseq (zret (zk (.bl false)))
  znext) znext)
  (zseq (zret (zand (zop eqX (zprop 0 f_Net_text (zvar 0)) (zcall f__law_text [] (zcons (zvar 1) znil))) (zop eqX (zlenO 0 f_Net___len__ (zvar 0)) (zcb lenD (zcons (zop dixD (zvar 1) (zk (.str "ties"))) znil)))))
  znext)
def f__law_is_as_told : Fn := bodyFn N__law_is_as_told 2 g__law_is_as_told
abbrev s__law_is_in_right : Stmt := topS 56
abbrev N__law_is_in_right : List Str := ["_law_lore_here", "_law_net_here", "_law_one", "_law_other", "_law_value", "_law_pair", "_law_its", "_law_caught", "_law_later"]
def g__law_is_in_right : DenS :=
  zseq (zasg (zheard (zmeth 0 f_Net_with_tie (zvar 1) (zcons (zvar 2) (zcons (zvar 3) znil)))) (gtup 2 (gcons (gset 7) (gcons (gset 8) gnil))))
  (zseq (zfor (zseqI (ztup (zcons (zvar 2) (zcons (zvar 3) znil)))) (gset 4) (zseq (zif (znot (zcall f__law_is_place [] (zcons (zvar 0) (zcons (zvar 4) znil)))) (zseq (zret (zcall f__law_is_refused [] (zcons (zvar 7) (zcons (zk (.str "place")) (zcons (zvar 4) znil)))))
  znext) znext)
  znext))
  (zseq (zasg (zcall f__law_pair_of [] (zcons (zvar 0) (zcons (zvar 2) (zcons (zvar 3) znil)))) (gset 5))
  (zseq (zif (zor (zop eqX (zvar 2) (zvar 3)) (zop inX (zvar 5) (zop dixD (zvar 0) (zk (.str "ties"))))) (zseq (zret (zcall f__law_is_refused [] (zcons (zvar 7) (zcons (zk (.str "tie")) (zcons (ztup (zcons (zvar 2) (zcons (zvar 3) znil))) znil)))))
  znext) znext)
  (zseq (zif (zop eqX (zcb lenD (zcons (zop dixD (zvar 0) (zk (.str "ties"))) znil)) (zk (.int 14))) (zseq (zret (zcall f__law_is_refused [] (zcons (zvar 7) (zcons (zk (.str "full")) (zcons (zk (.int 14)) znil)))))
  znext) znext)
  (zseq (zasg (zcall f__law_with [] (zcons (zvar 0) (zcons (zop dixD (zvar 0) (zk (.str "watchers"))) (zcons (zop addD (zop dixD (zvar 0) (zk (.str "ties"))) (frz (zlstF (zcons (zvar 5) znil)))) znil)))) (gset 6))
  (zseq (zret (zand (zop isND (zvar 7) (zk .non)) (zcall f__law_is_as_told [] (zcons (zvar 8) (zcons (zvar 6) znil)))))
  znext))))))
def f__law_is_in_right : Fn := bodyFn N__law_is_in_right 4 g__law_is_in_right
abbrev s_Net_without_tie : Stmt := (clsBody (topS 33)).getD 13 (.Pass ⟨0, 0, 0, 0⟩)
abbrev N_Net_without_tie : List Str := ["self", "one", "other", "pair", "tie"]
def g_Net_without_tie : DenS :=
  zseq (zasg (zcall f_pair_of [] (zcons (zfld 0 0 (zvar 0)) (zcons (zvar 1) (zcons (zvar 2) znil)))) (gset 3))
  (zseq (zif (zop ninL (zvar 3) (zfld 0 2 (zvar 0))) (zseq (zraise 6 (ztup (zcons (zvar 1) (zcons (zvar 2) znil))))
  znext) znext)
  (zseq (zif (zop eqX (zcb lenD (zcons (zfld 0 2 (zvar 0)) znil)) (zk (.int 1))) (zseq (zraise 8 (ztup (zcons (zvar 1) (zcons (zvar 2) znil))))
  znext) znext)
  (zseq (zret (zcall f_Net___init__ [] (zcons (zcall f_text_of [] (zcons (zfld 0 0 (zvar 0)) (zcons (zfld 0 3 (zvar 0)) (zcons (frz (zcompF (zseqI (zfld 0 2 (zvar 0))) (gset 4) (toB (zop neX (zvar 4) (zvar 3))) (zvar 4) [4])) znil)))) znil)))
  znext)))
def f_Net_without_tie : Fn := bodyFn N_Net_without_tie 3 g_Net_without_tie
abbrev s__law_is_out_right : Stmt := topS 57
abbrev N__law_is_out_right : List Str := ["_law_lore_here", "_law_net_here", "_law_one", "_law_other", "_law_value", "_law_pair", "_law_rest", "_law_caught", "_law_later", "_law_tie"]
def g__law_is_out_right : DenS :=
  zseq (zasg (zheard (zmeth 0 f_Net_without_tie (zvar 1) (zcons (zvar 2) (zcons (zvar 3) znil)))) (gtup 2 (gcons (gset 7) (gcons (gset 8) gnil))))
  (zseq (zfor (zseqI (ztup (zcons (zvar 2) (zcons (zvar 3) znil)))) (gset 4) (zseq (zif (znot (zcall f__law_is_place [] (zcons (zvar 0) (zcons (zvar 4) znil)))) (zseq (zret (zcall f__law_is_refused [] (zcons (zvar 7) (zcons (zk (.str "place")) (zcons (zvar 4) znil)))))
  znext) znext)
  znext))
  (zseq (zasg (zcall f__law_pair_of [] (zcons (zvar 0) (zcons (zvar 2) (zcons (zvar 3) znil)))) (gset 5))
  (zseq (zif (zop ninL (zvar 5) (zop dixD (zvar 0) (zk (.str "ties")))) (zseq (zret (zcall f__law_is_refused [] (zcons (zvar 7) (zcons (zk (.str "tie")) (zcons (ztup (zcons (zvar 2) (zcons (zvar 3) znil))) znil)))))
  znext) znext)
  (zseq (zif (zop eqX (zcb lenD (zcons (zop dixD (zvar 0) (zk (.str "ties"))) znil)) (zk (.int 1))) (zseq (zret (zcall f__law_is_refused [] (zcons (zvar 7) (zcons (zk (.str "last")) (zcons (ztup (zcons (zvar 2) (zcons (zvar 3) znil))) znil)))))
  znext) znext)
  (zseq (zasg (frz (zcompF (zseqI (zop dixD (zvar 0) (zk (.str "ties")))) (gset 9) (toB (zop neX (zvar 9) (zvar 5))) (zvar 9) [9])) (gset 6))
  (zseq (zret (zand (zop isND (zvar 7) (zk .non)) (zcall f__law_is_as_told [] (zcons (zvar 8) (zcons (zcall f__law_with [] (zcons (zvar 0) (zcons (zop dixD (zvar 0) (zk (.str "watchers"))) (zcons (zvar 6) znil)))) znil)))))
  znext))))))
def f__law_is_out_right : Fn := bodyFn N__law_is_out_right 4 g__law_is_out_right
abbrev s__law_right : Stmt := topS 58
abbrev N__law_right : List Str := ["_law_pot_here", "_law_pairs_here", "_law_one", "_law_lore_here", "_law_way", "_law_net_here", "_law_ends", "_law_other"]
def g__law_right : DenS :=
  zseq (zpar [3, 4] (snewD (zcallF f__law_lore [] (zcons (zvar 0) (zcons (zk (.int 3)) (zcons (zk (.int 8)) (zcons (zk (.int 9)) znil))))) (sval (zcall f__law_take [] (zcons (zvar 0) (zcons (zk (.int 3)) znil))) snil)))
  (zseq (zasg (zcall f__law_pairs [] (zcons (zdixK 3 "places") znil)) (gset 1))
  (zseq (zif (zop eqX (zvar 4) (zk (.int 0))) (zseq (zputK 3 "ties" (zslice (zdixK 3 "ties") onone (osome (zk (.int 1)))))
  znext) znext)
  (zseq (zif (zand (zop eqX (zvar 4) (zk (.int 1))) (zop gtD (zcb lenD (zcons (zvar 1) znil)) (zk (.int 14)))) (zseq (zputK 3 "ties" (zcall f__law_some [] (zcons (zvar 0) (zcons (zvar 1) (zcons (zk (.int 14)) znil)))))
  znext) znext)
  (zseq (zpar [5, 6] (sval (zcall f__law_net [] (zcons (zvarX 3) znil)) (sval (zop addD (zdixK 3 "places") (frz (zlstF (zcons (zk (.str "nosuch")) (zcons (zk .non) (zcons (zk (.int 0)) (zcons (ztup znil) (zcons (frz (zlstF znil)) (zcons (zcall f__law_odd [] (zcons (zvar 0) znil)) znil))))))))) snil)))
  (zseq (zfor (zseqI (zvar 6)) (gset 2) (zseq (zfor (zseqI (zvar 6)) (gset 7) (zseq (zif (zor (znot (zcall f__law_is_in_right [] (zcons (zvarX 3) (zcons (zvar 5) (zcons (zvar 2) (zcons (zvar 7) znil)))))) (znot (zcall f__law_is_out_right [] (zcons (zvarX 3) (zcons (zvar 5) (zcons (zvar 2) (zcons (zvar 7) znil))))))) (zseq (zret (zk (.bl false)))
  znext) znext)
  znext))
  znext))
  (zseq (zret (zcall f__law_is_as_told [] (zcons (zvar 5) (zcons (zvarX 3) znil))))
  znext))))))
def f__law_right : Fn := bodyFn N__law_right 1 g__law_right
abbrev s_law : Stmt := topS 59
abbrev N_law : List Str := ["_law_script", "_law_place", "_law_pot_here", "_law_lap"]
def g_law : DenS :=
  zseq (zfor (zseqI (zcall f__law_cells [] (zcons (zvar 0) (zcons (zk (.int 5)) znil)))) (gset 1) (zseq (zasg (zcall f__law_pot [] (zcons (zvar 0) (zcons (zvar 1) znil))) (gset 2))
  (zseq (zif (znot (zcb allD (zcons (frz (zcompF (zrange (zcons (zk (.int 2)) znil)) (gset 3) yes (zcall f__law_right [] (zcons (zvar 2) znil)) [3])) znil))) (zseq (zret (zk (.bl false)))
  znext) znext)
  znext)))
  (zseq (zret (zk (.bl true)))
  znext)
def f_law : Fn := bodyFn N_law 1 g_law
abbrev s__law_heard : Stmt := topS 40
abbrev s_init : Stmt := (clsBody (topS 2)).getD 0 (.Pass ⟨0, 0, 0, 0⟩)
end Z


set_option Elab.async false
set_option linter.all false
set_option maxRecDepth 100000
set_option maxHeartbeats 2000000
namespace Z
open PySem PySem.Spec PyProof.Rows L2 RZ
section
variable {Γ : Gm} {P : Program} {w : World} {mg : Str → Option Value} {base : Heap} {f : Addr} {fd : FuncData}
theorem sc__law_cells : FnScope N__law_cells ["_law_script", "_law_most"] (defScope s__law_cells) := ⟨rfl, rfl, rfl, by decide +kernel, rfl, by decide +kernel, by decide +kernel⟩
theorem c__law_cells (F : FunD Γ.K "_law_cells" "_law_cells" (defArgs s__law_cells) (defBody s__law_cells) (defScope s__law_cells) [] [] f fd) (hm : mg "_law_cells" = some (.ref f)) (M : Bn mg) : Cal Γ P w mg base "_law_cells" 1 2 [] f__law_cells :=
  have S := sc__law_cells
  calOf F hm sc__law_cells rfl (fun cdv A outer s H E z hg hr =>
  z_seq (z_ret (z_frz (flistRg M (qblt bmax M (ac z_int (ac (qblt bmin M (ac (qv 1) (ac (qblt blen M (ac (qv 0) an)) an))) an))))))
  z_nil) (bind0 F fun _ _ _ _ _ _ us hl => match us, hl with | [_, _], _ => rfl)
theorem sc__law_pot : FnScope N__law_pot ["_law_script", "_law_place"] (defScope s__law_pot) := ⟨rfl, rfl, rfl, by decide +kernel, rfl, by decide +kernel, by decide +kernel⟩
theorem c__law_pot (F : FunD Γ.K "_law_pot" "_law_pot" (defArgs s__law_pot) (defBody s__law_pot) (defScope s__law_pot) [] [] f fd) (hm : mg "_law_pot" = some (.ref f)) (M : Bn mg) : Cal Γ P w mg base "_law_pot" 1 2 [] f__law_pot :=
  have S := sc__law_pot
  calOf F hm sc__law_pot rfl (fun cdv A outer s H E z hg hr =>
  z_seq (sset 2 S.nd (z_ite (tcmp clt (qv 1) (qblt blen M (ac (qv 0) an))) (qidx (qv 0) (qv 1)) (qadd (qmul z_int (qv 1)) z_int)))
  (z_seq (sset 3 S.nd (qmul (qmod (qblt bint M (ac (qblt babs M (ac (qv 2) an)) an)) (qpow (qpow z_int z_int) z_int)) (qblt bint M (ac (qcmp cge (qblt babs M (ac (qv 2) an)) (qpow z_int z_int)) an))))
  (z_seq (sset 4 S.nd (qmod (qblt bint M (ac (qv 2) an)) z_int))
  (z_seq (z_ret (z_celD (flst (ac (qv 3) (ac (qmod (qblt bint M (ac (qadd (qadd (qmul (qv 4) z_int) (qmul (qmul z_int (qv 1)) (qv 1))) z_int) an)) z_int) (ac z_int an))))))
  z_nil)))) (bind0 F fun _ _ _ _ _ _ us hl => match us, hl with | [_, _], _ => rfl)
theorem sc__law_take : FnScope N__law_take ["_law_pot_here", "_law_upto"] (defScope s__law_take) := ⟨rfl, rfl, rfl, by decide +kernel, rfl, by decide +kernel, by decide +kernel⟩
theorem c__law_take (F : FunD Γ.K "_law_take" "_law_take" (defArgs s__law_take) (defBody s__law_take) (defScope s__law_take) [] [] f fd) (hm : mg "_law_take" = some (.ref f)) (M : Bn mg) : Cal Γ P w mg base "_law_take" 1 2 [] f__law_take :=
  have S := sc__law_take
  calOf F hm sc__law_take rfl (fun cdv A outer s H E z hg hr =>
  z_seq (z_if (tcmp cgt (qidx (qv 0) z_int) z_int) (z_seq (sset 4 S.nd (qmod (qblt bint M (ac (qidx (qv 0) z_int) an)) (qv 1)))
  (z_seq (sitem (qfdiv (qidx (qv 0) z_int) (qv 1)) (qv 0) z_int)
  (z_seq (z_ret (qv 4))
  z_nil))) z_nil)
  (z_seq (sitem (qadd (qidx (qv 0) z_int) z_int) (qv 0) z_int)
  (z_seq (sset 2 S.nd (qidx (z_frz (flst (ac z_int (ac z_int (ac z_int (ac z_int (ac z_int an))))))) (qmod (qblt bint M (ac (qidx (qv 0) z_int) an)) z_int)))
  (z_seq (sset 3 S.nd (qmod (qblt bint M (ac (qpow (qblt bint M (ac (qadd (qadd (qidx (qv 0) z_int) (qmul (qmul z_int (qidx (qv 0) z_int)) (qidx (qv 0) z_int))) z_int) an)) z_int) an)) (qv 2)))
  (z_seq (sset 3 S.nd (qmod (qblt bint M (ac (qmul (qv 3) (qadd (qmod (qblt bint M (ac (qv 3) an)) z_int) (qmul z_int (qidx (qv 0) z_int)))) an)) z_int))
  (z_seq (z_ret (qmod (qblt bint M (ac (qfdiv (qv 3) z_int) an)) (qv 1)))
  z_nil)))))) (bind0 F fun _ _ _ _ _ _ us hl => match us, hl with | [_, _], _ => rfl)
theorem sc__law_some : FnScope N__law_some ["_law_pot_here", "_law_pool", "_law_many"] (defScope s__law_some) := ⟨rfl, rfl, rfl, by decide +kernel, rfl, by decide +kernel, by decide +kernel⟩
theorem c__law_some (F : FunD Γ.K "_law_some" "_law_some" (defArgs s__law_some) (defBody s__law_some) (defScope s__law_some) [] [] f fd) (hm : mg "_law_some" = some (.ref f)) (M : Bn mg) (C_law_take : Cal Γ P w mg base "_law_take" 1 2 [] f__law_take) : Cal Γ P w mg base "_law_some" 2 3 [] f__law_some :=
  have S := sc__law_some
  calOf F hm sc__law_some rfl (fun cdv A outer s H E z hg hr =>
  z_seq (par2 4 5 S.nd (snew' (flist M (ac (qv 1) an)) (fun _ => snew' (flst an) (fun _ => s_nil))))
  (z_seq (sfor ownsCx (irange M (ac (qv 2) an)) (gname 3 S.nd) (z_seq (sexpr (qbld 5 mappend (ac (qbld 4 mpop (ac (qcall C_law_take 0 hr (by decide) hg takesCx (ac (qv 0) (ac (qlenP 4 M) an))) an)) an)))
  z_nil))
  (z_seq (z_ret (qv 5))
  z_nil))) (bind0 F fun _ _ _ _ _ _ us hl => match us, hl with | [_, _, _], _ => rfl)
theorem sc__law_names : FnScope N__law_names ["_law_pot_here", "_law_many"] (defScope s__law_names) := ⟨rfl, rfl, rfl, by decide +kernel, rfl, by decide +kernel, by decide +kernel⟩
theorem c__law_names (F : FunD Γ.K "_law_names" "_law_names" (defArgs s__law_names) (defBody s__law_names) (defScope s__law_names) [] [] f fd) (hm : mg "_law_names" = some (.ref f)) (M : Bn mg) (C_law_some : Cal Γ P w mg base "_law_some" 2 3 [] f__law_some) : Cal Γ P w mg base "_law_names" 3 2 [] f__law_names :=
  have S := sc__law_names
  calOf F hm sc__law_names rfl (fun cdv A outer s H E z hg hr =>
  z_seq (sset 2 S.nd (z_frz (flst (ac z_str (ac z_str (ac z_str (ac z_str (ac z_str (ac z_str (ac z_str (ac z_str (ac z_str (ac z_str (ac z_str (ac z_str (ac z_str (ac z_str an)))))))))))))))))
  (z_seq (z_ret (qcall C_law_some 0 hr (by decide) hg takesCx (ac (qv 0) (ac (qv 2) (ac (qv 1) an)))))
  z_nil)) (bind0 F fun _ _ _ _ _ _ us hl => match us, hl with | [_, _], _ => rfl)
theorem sc__law_pairs : FnScope N__law_pairs ["_law_places"] (defScope s__law_pairs) := ⟨rfl, rfl, rfl, by decide +kernel, rfl, by decide +kernel, by decide +kernel⟩
theorem c__law_pairs (F : FunD Γ.K "_law_pairs" "_law_pairs" (defArgs s__law_pairs) (defBody s__law_pairs) (defScope s__law_pairs) [] [] f fd) (hm : mg "_law_pairs" = some (.ref f)) (M : Bn mg) : Cal Γ P w mg base "_law_pairs" 1 1 [] f__law_pairs :=
  have S := sc__law_pairs
  calOf F hm sc__law_pairs rfl (fun cdv A outer s H E z hg hr =>
  z_seq (ssetB 1 S.nd (flst an))
  (z_seq (sfor ownsCx (ienum M (ac (qv 0) an)) (gtuple (gscons (gname 2 S.nd) (gscons (gname 3 S.nd) z_gnil))) (z_seq (sexpr (qbld 1 mextend (ac (z_frz (fcomp S.nd (own := [("_law_other", 4)]) (iseq (qslice (qv 0) (o_some (qadd (qv 2) z_int)) o_none)) (by rfl) (fun _ _ _ _ _ _ => gname 4 S.nd) (fun _ _ _ _ _ _ => tno) (fun _ _ _ _ _ _ => qtup (ac (qv 3) (ac (qv 4) an))))) an)))
  z_nil))
  (z_seq (z_ret (qv 1))
  z_nil))) (bind0 F fun _ _ _ _ _ _ us hl => match us, hl with | [_], _ => rfl)
theorem sc__law_of : FnScope N__law_of ["_law_pot_here", "_law_some_here"] (defScope s__law_of) := ⟨rfl, rfl, rfl, by decide +kernel, rfl, by decide +kernel, by decide +kernel⟩
theorem c__law_of (F : FunD Γ.K "_law_of" "_law_of" (defArgs s__law_of) (defBody s__law_of) (defScope s__law_of) [] [] f fd) (hm : mg "_law_of" = some (.ref f)) (M : Bn mg) (C_law_take : Cal Γ P w mg base "_law_take" 1 2 [] f__law_take) : Cal Γ P w mg base "_law_of" 2 2 [] f__law_of :=
  have S := sc__law_of
  calOf F hm sc__law_of rfl (fun cdv A outer s H E z hg hr =>
  z_seq (z_ret (qidx (qv 1) (qcall C_law_take 0 hr (by decide) hg takesCx (ac (qv 0) (ac (qblt blen M (ac (qv 1) an)) an)))))
  z_nil) (bind0 F fun _ _ _ _ _ _ us hl => match us, hl with | [_, _], _ => rfl)
theorem sc__law_made : FnScope N__law_made ["_law_places", "_law_watchers", "_law_ties"] (defScope s__law_made) := ⟨rfl, rfl, rfl, by decide +kernel, rfl, by decide +kernel, by decide +kernel⟩
theorem c__law_made (F : FunD Γ.K "_law_made" "_law_made" (defArgs s__law_made) (defBody s__law_made) (defScope s__law_made) [] [] f fd) (hm : mg "_law_made" = some (.ref f)) (M : Bn mg) : Cal Γ P w mg base "_law_made" 1 3 [] f__law_made :=
  have S := sc__law_made
  calOf F hm sc__law_made rfl (fun cdv A outer s H E z hg hr =>
  z_seq (z_ret (qdct (pd_cons (fun _ => z_frz (flist M (ac (qv 0) an))) (pd_cons (fun _ => z_frz (fcomp S.nd (own := [("_law_one", 3)]) (iseq (qv 0)) (by rfl) (fun _ _ _ _ _ _ => gname 3 S.nd) (fun _ _ _ _ _ _ => tone (tcmp (cin hr) (qv 3) (qv 1))) (fun _ _ _ _ _ _ => qv 3))) (pd_cons (fun _ => z_frz (flist M (ac (qv 2) an))) pd_nil)))))
  z_nil) (bind0 F fun _ _ _ _ _ _ us hl => match us, hl with | [_, _, _], _ => rfl)
theorem sc__law_lore : FnScope N__law_lore ["_law_pot_here", "_law_few", "_law_most", "_law_ties"] (defScope s__law_lore) := ⟨rfl, rfl, rfl, by decide +kernel, rfl, by decide +kernel, by decide +kernel⟩
theorem c__law_lore (F : FunD Γ.K "_law_lore" "_law_lore" (defArgs s__law_lore) (defBody s__law_lore) (defScope s__law_lore) [] [] f fd) (hm : mg "_law_lore" = some (.ref f)) (M : Bn mg) (C_law_names : Cal Γ P w mg base "_law_names" 3 2 [] f__law_names) (C_law_take : Cal Γ P w mg base "_law_take" 1 2 [] f__law_take) (C_law_pairs : Cal Γ P w mg base "_law_pairs" 1 1 [] f__law_pairs) (C_law_of : Cal Γ P w mg base "_law_of" 2 2 [] f__law_of) (C_law_some : Cal Γ P w mg base "_law_some" 2 3 [] f__law_some) (C_law_made : Cal Γ P w mg base "_law_made" 1 3 [] f__law_made) : Cal Γ P w mg base "_law_lore" 4 4 [] f__law_lore :=
  have S := sc__law_lore
  calOf F hm sc__law_lore rfl (fun cdv A outer s H E z hg hr =>
  z_seq (sset 4 S.nd (qcall C_law_names 0 hr (by decide) hg takesCx (ac (qv 0) (ac (qadd (qv 1) (qcall C_law_take 0 hr (by decide) hg takesCx (ac (qv 0) (ac (qadd (qsub (qv 2) (qv 1)) z_int) an)))) an))))
  (z_seq (npar (is := [9, 7]) (sval' (qcall C_law_pairs 0 hr (by decide) hg takesCx (ac (qv 4) an)) (snew' (flst an) (fun _ => s_nil))) (gn 9 S.nd (gn 7 S.nd gn0)))
  (z_seq (z_if (tcmp cgt (qcall C_law_take 0 hr (by decide) hg takesCx (ac (qv 0) (ac z_int an))) z_int) (z_seq (sfor ownsCx (ienum M (ac (qslice (qv 4) (o_some z_int) o_none) an)) (gtuple (gscons (gname 10 S.nd) (gscons (gname 11 S.nd) z_gnil))) (z_seq (sexpr (qbld 7 mappend (ac (qtup (ac (qcall C_law_of 0 hr (by decide) hg takesCx (ac (qv 0) (ac (qslice (qv 4) o_none (o_some (qadd (qv 10) z_int))) an))) (ac (qv 11) an))) an)))
  z_nil))
  z_nil) z_nil)
  (z_seq (scompZ (scomp 5 S.nd (own := [("_law_pair", 12)]) (iseq (qv 9)) (by rfl) (fun _ _ _ _ _ _ => gname 12 S.nd) (fun _ _ _ _ _ _ => tone (tninB 7 hr (qv 12))) (fun _ _ _ _ _ _ => qv 12)))
  (z_seq (sset 6 S.nd (qblt bmax M (ac z_int (ac (qsub (qblt bmin M (ac (qv 3) (ac z_int an))) (qlenP 7 M)) an))))
  (z_seq (sset 7 S.nd (qadd (qv 7) (qcall C_law_some 0 hr (by decide) hg takesCx (ac (qv 0) (ac (qv 5) (ac (qblt bmin M (ac (qblt blen M (ac (qv 5) an)) (ac (qcall C_law_take 0 hr (by decide) hg takesCx (ac (qv 0) (ac (qadd (qv 6) z_int) an))) an))) an))))))
  (z_seq (sset 7 S.nd (z_ite (tcmp (cneX hr) (qv 7) (z_frz (flst an))) (qv 7) (qslice (qv 9) o_none (o_some z_int))))
  (z_seq (sset 8 S.nd (qcall C_law_some 0 hr (by decide) hg takesCx (ac (qv 0) (ac (qv 4) (ac (qadd z_int (qcall C_law_take 0 hr (by decide) hg takesCx (ac (qv 0) (ac (qsub (qblt blen M (ac (qv 4) an)) z_int) an)))) an)))))
  (z_seq (z_ret (qcall C_law_made 0 hr (by decide) hg takesCx (ac (qv 4) (ac (qv 8) (ac (qcall C_law_some 0 hr (by decide) hg takesCx (ac (qv 0) (ac (qv 7) (ac (qlenP 7 M) an)))) an)))))
  z_nil))))))))) (bind0 F fun _ _ _ _ _ _ us hl => match us, hl with | [_, _, _, _], _ => rfl)
theorem sc_is_name : FnScope N_is_name ["word"] (defScope s_is_name) := ⟨rfl, rfl, rfl, by decide +kernel, rfl, by decide +kernel, by decide +kernel⟩
theorem c_is_name (F : FunD Γ.K "is_name" "is_name" (defArgs s_is_name) (defBody s_is_name) (defScope s_is_name) [] [] f fd) (hm : mg "is_name" = some (.ref f)) (M : Bn mg) (GMOST_LETTERS : Gc Γ mg "MOST_LETTERS" (.int 8)) (GLETTERS : Gc Γ mg "LETTERS" (.str "abcdefghijklmnopqrstuvwxyz")) : Cal Γ P w mg base "is_name" 1 1 [] f_is_name :=
  have S := sc_is_name
  calOf F hm sc_is_name rfl (fun cdv A outer s H E z hg hr =>
  z_seq (z_ret (z_and (qchain cle cle z_int (qblt blen M (ac (qv 0) an)) (qg GMOST_LETTERS)) (pe_one (qblt ball M (ac (z_frz (fcomp S.nd (own := [("sign", 1)]) (iseq (qv 0)) (by rfl) (fun _ _ _ _ _ _ => gname 1 S.nd) (fun _ _ _ _ _ _ => tno) (fun _ _ _ _ _ _ => qcmp (cin hr) (qv 1) (qg GLETTERS)))) an)))))
  z_nil) (bind0 F fun _ _ _ _ _ _ us hl => match us, hl with | [_], _ => rfl)
theorem sc_places_in : FnScope N_places_in ["line"] (defScope s_places_in) := ⟨rfl, rfl, rfl, by decide +kernel, rfl, by decide +kernel, by decide +kernel⟩
theorem c_places_in (F : FunD Γ.K "places_in" "places_in" (defArgs s_places_in) (defBody s_places_in) (defScope s_places_in) [] [] f fd) (hm : mg "places_in" = some (.ref f)) (M : Bn mg) (Cis_name : Cal Γ P w mg base "is_name" 1 1 [] f_is_name) (GBLANK : Gc Γ mg "BLANK" (.str " ")) (GPLACES : Gc Γ mg "PLACES" (.str "places")) (GLEAST_PLACES : Gc Γ mg "LEAST_PLACES" (.int 3)) (GMOST_PLACES : Gc Γ mg "MOST_PLACES" (.int 8)) : Cal Γ P w mg base "places_in" 2 1 [] f_places_in :=
  have S := sc_places_in
  calOf F hm sc_places_in rfl (fun cdv A outer s H E z hg hr =>
  z_seq (sasg (qsplit (qv 0) (qg GBLANK)) (gstarT (gscons (gname 1 S.nd) (gsconsS (gname 2 S.nd) z_gnil))))
  (z_seq (z_if (PW.pt (w_or (tcmp (cneX hr) (qv 1) (qg GPLACES)) (w_or (z_notT (tchain cle cle (qg GLEAST_PLACES) (qblt blen M (ac (qv 2) an)) (qg GMOST_PLACES))) (pw_or1 (z_notT (tval (qblt ball M (ac (z_frz (fcomp S.nd (own := [("name", 3)]) (iseq (qv 2)) (by rfl) (fun _ _ _ _ _ _ => gname 3 S.nd) (fun _ _ _ _ _ _ => tno) (fun _ _ _ _ _ _ => qcall Cis_name 0 hr (by decide) hg takes0 (ac (qv 3) an)))) an)))))))) (z_seq (z_ret z_non)
  z_nil) z_nil)
  (z_seq (z_ret (z_ite (tcmp (ceqX hr) (qlenSet M (qv 2)) (qblt blen M (ac (qv 2) an))) (qblt btuple M (ac (qv 2) an)) z_non))
  z_nil))) (bind0 F fun _ _ _ _ _ _ us hl => match us, hl with | [_], _ => rfl)
theorem sc_is_word : FnScope N_is_word ["value", "some"] (defScope s_is_word) := ⟨rfl, rfl, rfl, by decide +kernel, rfl, by decide +kernel, by decide +kernel⟩
theorem c_is_word (F : FunD Γ.K "is_word" "is_word" (defArgs s_is_word) (defBody s_is_word) (defScope s_is_word) [] [] f fd) (hm : mg "is_word" = some (.ref f)) (M : Bn mg) : Cal Γ P w mg base "is_word" 1 2 [] f_is_word :=
  have S := sc_is_word
  calOf F hm sc_is_word rfl (fun cdv A outer s H E z hg hr =>
  z_seq (z_ret (z_and (qisi M (qv 0)) (pe_one (qcmp (cin hr) (qv 0) (qv 1)))))
  z_nil) (bind0 F fun _ _ _ _ _ _ us hl => match us, hl with | [_, _], _ => rfl)
theorem sc_in_sequence : FnScope N_in_sequence ["places", "some"] (defScope s_in_sequence) := ⟨rfl, rfl, rfl, by decide +kernel, rfl, by decide +kernel, by decide +kernel⟩
theorem c_in_sequence (F : FunD Γ.K "in_sequence" "in_sequence" (defArgs s_in_sequence) (defBody s_in_sequence) (defScope s_in_sequence) [] [] f fd) (hm : mg "in_sequence" = some (.ref f)) (M : Bn mg) : Cal Γ P w mg base "in_sequence" 1 2 [] f_in_sequence :=
  have S := sc_in_sequence
  calOf F hm sc_in_sequence rfl (fun cdv A outer s H E z hg hr =>
  z_seq (z_ret (qblt btuple M (ac (z_frz (fcomp S.nd (own := [("place", 2)]) (iseq (qv 0)) (by rfl) (fun _ _ _ _ _ _ => gname 2 S.nd) (fun _ _ _ _ _ _ => tone (tcmp (cin hr) (qv 2) (qv 1))) (fun _ _ _ _ _ _ => qv 2))) an)))
  z_nil) (bind0 F fun _ _ _ _ _ _ us hl => match us, hl with | [_, _], _ => rfl)
theorem sc_is_lot : FnScope N_is_lot ["places", "value"] (defScope s_is_lot) := ⟨rfl, rfl, rfl, by decide +kernel, rfl, by decide +kernel, by decide +kernel⟩
theorem c_is_lot (F : FunD Γ.K "is_lot" "is_lot" (defArgs s_is_lot) (defBody s_is_lot) (defScope s_is_lot) [] [] f fd) (hm : mg "is_lot" = some (.ref f)) (M : Bn mg) (Cis_word : Cal Γ P w mg base "is_word" 1 2 [] f_is_word) (Cin_sequence : Cal Γ P w mg base "in_sequence" 1 2 [] f_in_sequence) : Cal Γ P w mg base "is_lot" 2 2 [] f_is_lot :=
  have S := sc_is_lot
  calOf F hm sc_is_lot rfl (fun cdv A outer s H E z hg hr =>
  z_seq (z_if (PW.pt (w_or (z_notT (tval (qisi M (qv 1)))) (pw_or1 (z_notT (tval (qblt ball M (ac (z_frz (fcomp S.nd (own := [("one", 2)]) (iseq (qv 1)) (by rfl) (fun _ _ _ _ _ _ => gname 2 S.nd) (fun _ _ _ _ _ _ => tno) (fun _ _ _ _ _ _ => qcall Cis_word 0 hr (by decide) hg takes0 (ac (qv 2) (ac (qv 0) an))))) an))))))) (z_seq (z_ret z_bl)
  z_nil) z_nil)
  (z_seq (z_ret (qcmp (ceqX hr) (qcall Cin_sequence 0 hr (by decide) hg takesCx (ac (qv 0) (ac (qv 1) an))) (qv 1)))
  z_nil)) (bind0 F fun _ _ _ _ _ _ us hl => match us, hl with | [_, _], _ => rfl)
theorem sc_watchers_in : FnScope N_watchers_in ["places", "line"] (defScope s_watchers_in) := ⟨rfl, rfl, rfl, by decide +kernel, rfl, by decide +kernel, by decide +kernel⟩
theorem c_watchers_in (F : FunD Γ.K "watchers_in" "watchers_in" (defArgs s_watchers_in) (defBody s_watchers_in) (defScope s_watchers_in) [] [] f fd) (hm : mg "watchers_in" = some (.ref f)) (M : Bn mg) (Cis_lot : Cal Γ P w mg base "is_lot" 2 2 [] f_is_lot) (GBLANK : Gc Γ mg "BLANK" (.str " ")) (GWATCHERS : Gc Γ mg "WATCHERS" (.str "watchers")) (GPAIR : Gc Γ mg "PAIR" (.int 2)) : Cal Γ P w mg base "watchers_in" 3 2 [] f_watchers_in :=
  have S := sc_watchers_in
  calOf F hm sc_watchers_in rfl (fun cdv A outer s H E z hg hr =>
  z_seq (sasg (qsplit (qv 1) (qg GBLANK)) (gstarT (gscons (gname 3 S.nd) (gsconsS (gname 4 S.nd) z_gnil))))
  (z_seq (sset 2 S.nd (qblt btuple M (ac (qv 4) an)))
  (z_seq (z_ret (z_ite (PW.pt (w_and (tcmp (ceqX hr) (qv 3) (qg GWATCHERS)) (w_and (tcmp cge (qblt blen M (ac (qv 2) an)) (qg GPAIR)) (pw_and1 (tval (qcall Cis_lot 0 hr (by decide) hg takesCx (ac (qv 0) (ac (qv 2) an)))))))) (qv 2) z_non))
  z_nil))) (bind0 F fun _ _ _ _ _ _ us hl => match us, hl with | [_, _], _ => rfl)
theorem sc_tie_in : FnScope N_tie_in ["places", "line"] (defScope s_tie_in) := ⟨rfl, rfl, rfl, by decide +kernel, rfl, by decide +kernel, by decide +kernel⟩
theorem c_tie_in (F : FunD Γ.K "tie_in" "tie_in" (defArgs s_tie_in) (defBody s_tie_in) (defScope s_tie_in) [] [] f fd) (hm : mg "tie_in" = some (.ref f)) (M : Bn mg) (Cis_lot : Cal Γ P w mg base "is_lot" 2 2 [] f_is_lot) (GBLANK : Gc Γ mg "BLANK" (.str " ")) (GTIE : Gc Γ mg "TIE" (.str "tie")) (GPAIR : Gc Γ mg "PAIR" (.int 2)) : Cal Γ P w mg base "tie_in" 3 2 [] f_tie_in :=
  have S := sc_tie_in
  calOf F hm sc_tie_in rfl (fun cdv A outer s H E z hg hr =>
  z_seq (sasg (qsplit (qv 1) (qg GBLANK)) (gstarT (gscons (gname 3 S.nd) (gsconsS (gname 4 S.nd) z_gnil))))
  (z_seq (sset 2 S.nd (qblt btuple M (ac (qv 4) an)))
  (z_seq (z_ret (z_ite (PW.pt (w_and (tcmp (ceqX hr) (qv 3) (qg GTIE)) (w_and (tcmp (ceqX hr) (qblt blen M (ac (qv 2) an)) (qg GPAIR)) (pw_and1 (tval (qcall Cis_lot 0 hr (by decide) hg takesCx (ac (qv 0) (ac (qv 2) an)))))))) (qv 2) z_non))
  z_nil))) (bind0 F fun _ _ _ _ _ _ us hl => match us, hl with | [_, _], _ => rfl)
theorem sc_Net___init__ : FnScope N_Net___init__ ["self", "text"] (defScope s_Net___init__) := ⟨rfl, rfl, rfl, by decide +kernel, rfl, by decide +kernel, by decide +kernel⟩
theorem c_Net___init__ (F : FunD Γ.K "__init__" "Net.__init__" (defArgs s_Net___init__) (defBody s_Net___init__) (defScope s_Net___init__) [] [] f fd) (M : Bn mg) (Cplaces_in : Cal Γ P w mg base "places_in" 2 1 [] f_places_in) (Cwatchers_in : Cal Γ P w mg base "watchers_in" 3 2 [] f_watchers_in) (Ctie_in : Cal Γ P w mg base "tie_in" 3 2 [] f_tie_in) (GFEED : Gc Γ mg "FEED" (.str "\n")) (GPAIR : Gc Γ mg "PAIR" (.int 2)) (GMOST_TIES : Gc Γ mg "MOST_TIES" (.int 14)) (Fown_ties : Fld Γ 0 "own_ties" 2) (Fown_watchers : Fld Γ 0 "own_watchers" 3) (Fown_places : Fld Γ 0 "own_places" 0) (Fown_text : Fld Γ 0 "own_text" 1) (ErBadNet : Erc Γ P w mg base "BadNet" 1) (Oc : OwnC Γ 0) : FnG P w Γ.K mg base 4 f fd ["self", "text"] (spN Γ (Γ.own 0).1 1 f_Net___init__) := by
  have S := sc_Net___init__
  have hC : Γ.own 0 = ((Γ.own 0).1, none) := Prod.ext rfl Oc.no
  obtain ⟨pown_ties, Town_ties⟩ := Fown_ties.ex
  obtain ⟨pown_watchers, Town_watchers⟩ := Fown_watchers.ex
  obtain ⟨pown_places, Town_places⟩ := Fown_places.ex
  obtain ⟨pown_text, Town_text⟩ := Fown_text.ex
  exact okN F sc_Net___init__ rfl (fun cdv A outer s H E z xa dx hg hr hs hl =>
  n_seq rfl (z_if (z_notT (tval (qisi M (qv 1)))) (z_seq (sraise ErBadNet takesCx hr (by decide) z_int)
  z_nil) z_nil)
  (n_seq rfl (sset 2 S.nd (qsplit (qv 1) (qg GFEED)))
  (n_seq rfl (sset 3 S.nd (qcall Cplaces_in 0 hr (by decide) hg takesCx (ac (qidx (qv 2) z_int) an)))
  (n_seq rfl (z_if (tcmp cis (qv 3) z_non) (z_seq (sraise ErBadNet takesCx hr (by decide) z_int)
  z_nil) z_nil)
  (n_seq rfl (sset 4 S.nd (z_ite (tcmp cgt (qblt blen M (ac (qv 2) an)) z_int) (qcall Cwatchers_in 0 hr (by decide) hg takesCx (ac (qv 3) (ac (qidx (qv 2) z_int) an))) z_non))
  (n_seq rfl (z_if (tcmp cis (qv 4) z_non) (z_seq (sraise ErBadNet takesCx hr (by decide) (qg GPAIR))
  z_nil) z_nil)
  (n_seq rfl (ssetB 5 S.nd (flst an))
  (n_seq rfl (sfor ownsCx (ienum M (ac (qslice (qv 2) (o_some (qg GPAIR)) o_none) an)) (gtuple (gscons (gname 6 S.nd) (gscons (gname 7 S.nd) z_gnil))) (z_seq (sset 8 S.nd (qcall Ctie_in 0 hr (by decide) hg takesCx (ac (qv 3) (ac (qv 7) an))))
  (z_seq (z_if (PW.pt (w_or (tcmp cis (qv 8) z_non) (w_or (tinB 5 hr (qv 8)) (pw_or1 (tcmp (ceqX hr) (qlenP 5 M) (qg GMOST_TIES)))))) (z_seq (sraise ErBadNet takesCx hr (by decide) (qadd (qadd (qv 6) (qg GPAIR)) z_int))
  z_nil) z_nil)
  (z_seq (sexpr (qbld 5 mappend (ac (qv 8) an)))
  z_nil))))
  (n_seq rfl (z_if (tcmp (ceqX hr) (qv 5) (z_frz (flst an))) (z_seq (sraise ErBadNet takesCx hr (by decide) (qadd (qg GPAIR) z_int))
  z_nil) z_nil)
  (n_blk rfl hs hl (b_cons Oc.cls Town_text rfl (visB_ok rfl) (fun _ => qv 1) (b_cons Oc.cls Town_places rfl (visB_ok rfl) (fun _ => qv 3) (b_cons Oc.cls Town_watchers rfl (visB_ok rfl) (fun _ => qv 4) (b_cons Oc.cls Town_ties rfl (visB_ok rfl) (fun _ => qblt btuple M (ac (qv 5) an)) (b_nil hC) rfl) rfl) rfl) rfl)))))))))))
theorem sc__law_text : FnScope N__law_text ["_law_lore_here"] (defScope s__law_text) := ⟨rfl, rfl, rfl, by decide +kernel, rfl, by decide +kernel, by decide +kernel⟩
theorem c__law_text (F : FunD Γ.K "_law_text" "_law_text" (defArgs s__law_text) (defBody s__law_text) (defScope s__law_text) [] [] f fd) (hm : mg "_law_text" = some (.ref f)) (M : Bn mg) : Cal Γ P w mg base "_law_text" 1 1 [] f__law_text :=
  have S := sc__law_text
  calOf F hm sc__law_text rfl (fun cdv A outer s H E z hg hr =>
  z_seq (sset 1 S.nd (z_frz (flst (ac (qjoin z_str (qadd (z_frz (flst (ac z_str an))) (qdix hr (qv 0) z_str))) (ac (qjoin z_str (qadd (z_frz (flst (ac z_str an))) (qdix hr (qv 0) z_str))) an)))))
  (z_seq (z_ret (qjoin z_str (qadd (qv 1) (z_frz (fcomp S.nd (own := [("_law_one", 2), ("_law_other", 3)]) (iseq (qdix hr (qv 0) z_str)) (by rfl) (fun _ _ _ _ _ _ => gtuple (gscons (gname 2 S.nd) (gscons (gname 3 S.nd) z_gnil))) (fun _ _ _ _ _ _ => tno) (fun _ _ _ _ _ _ => qadd (qadd (qadd z_str (qv 2)) z_str) (qv 3)))))))
  z_nil)) (bind0 F fun _ _ _ _ _ _ us hl => match us, hl with | [_], _ => rfl)
theorem sc__law_net : FnScope N__law_net ["_law_lore_here"] (defScope s__law_net) := ⟨rfl, rfl, rfl, by decide +kernel, rfl, by decide +kernel, by decide +kernel⟩
theorem c__law_net (F : FunD Γ.K "_law_net" "_law_net" (defArgs s__law_net) (defBody s__law_net) (defScope s__law_net) [] [] f fd) (hm : mg "_law_net" = some (.ref f)) (M : Bn mg) (C_law_text : Cal Γ P w mg base "_law_text" 1 1 [] f__law_text) (MNet : Mak Γ P w mg base "Net" 4 1 f_Net___init__) : Cal Γ P w mg base "_law_net" 6 1 [] f__law_net :=
  have S := sc__law_net
  calOf F hm sc__law_net rfl (fun cdv A outer s H E z hg hr =>
  z_seq (z_ret (qmake MNet hr (by decide) hg takesCx (ac (qcall C_law_text 0 hr (by decide) hg takesCx (ac (qv 0) an)) an)))
  z_nil) (bind0 F fun _ _ _ _ _ _ us hl => match us, hl with | [_], _ => rfl)
theorem sc__law_odd : FnScope N__law_odd ["_law_pot_here"] (defScope s__law_odd) := ⟨rfl, rfl, rfl, by decide +kernel, rfl, by decide +kernel, by decide +kernel⟩
theorem c__law_odd (F : FunD Γ.K "_law_odd" "_law_odd" (defArgs s__law_odd) (defBody s__law_odd) (defScope s__law_odd) [] [] f fd) (hm : mg "_law_odd" = some (.ref f)) (M : Bn mg) (C_law_of : Cal Γ P w mg base "_law_of" 2 2 [] f__law_of) : Cal Γ P w mg base "_law_odd" 3 1 [] f__law_odd :=
  have S := sc__law_odd
  calOf F hm sc__law_odd rfl (fun cdv A outer s H E z hg hr =>
  z_seq (sset 1 S.nd (z_frz (flst (ac z_non (ac z_bl (ac z_bl (ac z_int (ac z_int (ac (qneg z_int) (ac z_int (ac (qpow z_int z_int) (ac z_str (ac z_str (ac z_str (ac z_str (ac (qtup an) (ac (z_frz (flst an)) (ac z_dct0 (ac (qtup (ac z_int an)) (ac (qtup (ac (qtup an) an)) (ac (z_frz (flst (ac z_int an))) (ac (qtup (ac z_int (ac z_int an))) an))))))))))))))))))))))
  (z_seq (sset 1 S.nd (qadd (qv 1) (z_frz (flst (ac (qtup (ac z_str an)) (ac (qtup (ac z_str (ac z_str an))) (ac (qtup (ac z_int (ac z_int an))) (ac (qtup (ac z_int (ac z_int an))) (ac (qtup (ac z_int (ac z_int an))) (ac (qtup (ac (qtup (ac z_int (ac z_int an))) an)) (ac (qtup (ac z_non an)) (ac (qdct (pd_cons (fun _ => z_int) pd_nil)) (ac z_str (ac (qtup (ac z_str (ac (qtup an) an))) (ac z_str an)))))))))))))))
  (z_seq (z_ret (qcall C_law_of 0 hr (by decide) hg takesCx (ac (qv 0) (ac (qv 1) an))))
  z_nil))) (bind0 F fun _ _ _ _ _ _ us hl => match us, hl with | [_], _ => rfl)
theorem sc_check_place : FnScope N_check_place ["places", "value"] (defScope s_check_place) := ⟨rfl, rfl, rfl, by decide +kernel, rfl, by decide +kernel, by decide +kernel⟩
theorem c_check_place (F : FunD Γ.K "check_place" "check_place" (defArgs s_check_place) (defBody s_check_place) (defScope s_check_place) [] [] f fd) (hm : mg "check_place" = some (.ref f)) (M : Bn mg) (Cis_word : Cal Γ P w mg base "is_word" 1 2 [] f_is_word) (ErNoPlace : Erc Γ P w mg base "NoPlace" 2) : Cal Γ P w mg base "check_place" 3 2 [] f_check_place :=
  have S := sc_check_place
  calOf F hm sc_check_place rfl (fun cdv A outer s H E z hg hr =>
  z_seq (z_if (z_notT (tval (qcall Cis_word 0 hr (by decide) hg takesCx (ac (qv 1) (ac (qv 0) an))))) (z_seq (sraise ErNoPlace takesCx hr (by decide) (qv 1))
  z_nil) z_nil)
  z_nil) (bind0 F fun _ _ _ _ _ _ us hl => match us, hl with | [_, _], _ => rfl)
theorem sc_pair_of : FnScope N_pair_of ["places", "one", "other"] (defScope s_pair_of) := ⟨rfl, rfl, rfl, by decide +kernel, rfl, by decide +kernel, by decide +kernel⟩
theorem c_pair_of (F : FunD Γ.K "pair_of" "pair_of" (defArgs s_pair_of) (defBody s_pair_of) (defScope s_pair_of) [] [] f fd) (hm : mg "pair_of" = some (.ref f)) (M : Bn mg) (Ccheck_place : Cal Γ P w mg base "check_place" 3 2 [] f_check_place) (Cin_sequence : Cal Γ P w mg base "in_sequence" 1 2 [] f_in_sequence) : Cal Γ P w mg base "pair_of" 4 3 [] f_pair_of :=
  have S := sc_pair_of
  calOf F hm sc_pair_of rfl (fun cdv A outer s H E z hg hr =>
  z_seq (sexpr (qcall Ccheck_place 0 hr (by decide) hg takesCx (ac (qv 0) (ac (qv 1) an))))
  (z_seq (sexpr (qcall Ccheck_place 0 hr (by decide) hg takesCx (ac (qv 0) (ac (qv 2) an))))
  (z_seq (z_ret (qcall Cin_sequence 0 hr (by decide) hg takesCx (ac (qv 0) (ac (qtup (ac (qv 1) (ac (qv 2) an))) an))))
  z_nil))) (bind0 F fun _ _ _ _ _ _ us hl => match us, hl with | [_, _, _], _ => rfl)
theorem sc_text_of : FnScope N_text_of ["places", "watchers", "ties"] (defScope s_text_of) := ⟨rfl, rfl, rfl, by decide +kernel, rfl, by decide +kernel, by decide +kernel⟩
theorem c_text_of (F : FunD Γ.K "text_of" "text_of" (defArgs s_text_of) (defBody s_text_of) (defScope s_text_of) [] [] f fd) (hm : mg "text_of" = some (.ref f)) (M : Bn mg) (GBLANK : Gc Γ mg "BLANK" (.str " ")) (GPLACES : Gc Γ mg "PLACES" (.str "places")) (GWATCHERS : Gc Γ mg "WATCHERS" (.str "watchers")) (GFEED : Gc Γ mg "FEED" (.str "\n")) (GTIE : Gc Γ mg "TIE" (.str "tie")) : Cal Γ P w mg base "text_of" 1 3 [] f_text_of :=
  have S := sc_text_of
  calOf F hm sc_text_of rfl (fun cdv A outer s H E z hg hr =>
  z_seq (sset 3 S.nd (z_frz (flst (ac (qjoin (qg GBLANK) (z_frz (fstar (aco (qg GPLACES) (ast (qv 0) ano))))) (ac (qjoin (qg GBLANK) (z_frz (fstar (aco (qg GWATCHERS) (ast (qv 1) ano))))) an)))))
  (z_seq (z_ret (qjoin (qg GFEED) (z_frz (fstar (ast (qv 3) (ast (z_frz (fcomp S.nd (own := [("pair", 4)]) (iseq (qv 2)) (by rfl) (fun _ _ _ _ _ _ => gname 4 S.nd) (fun _ _ _ _ _ _ => tno) (fun _ _ _ _ _ _ => qjoin (qg GBLANK) (z_frz (fstar (aco (qg GTIE) (ast (qv 4) ano))))))) ano))))))
  z_nil)) (bind0 F fun _ _ _ _ _ _ us hl => match us, hl with | [_, _, _], _ => rfl)
theorem sc_Net_with_tie : FnScope N_Net_with_tie ["self", "one", "other"] (defScope s_Net_with_tie) := ⟨rfl, rfl, rfl, by decide +kernel, rfl, by decide +kernel, by decide +kernel⟩
theorem c_Net_with_tie (F : FunD Γ.K "with_tie" "Net.with_tie" (defArgs s_Net_with_tie) (defBody s_Net_with_tie) (defScope s_Net_with_tie) [] [] f fd) (M : Bn mg) (Cpair_of : Cal Γ P w mg base "pair_of" 4 3 [] f_pair_of) (Ctext_of : Cal Γ P w mg base "text_of" 1 3 [] f_text_of) (GMOST_TIES : Gc Γ mg "MOST_TIES" (.int 14)) (Fown_places : Fld Γ 0 "own_places" 0) (Fown_ties : Fld Γ 0 "own_ties" 2) (ErBadTie : Erc Γ P w mg base "BadTie" 6) (ErFull : Erc Γ P w mg base "Full" 7) (Fown_watchers : Fld Γ 0 "own_watchers" 3) (MNet : Mak Γ P w mg base "Net" 4 1 f_Net___init__) : FnG P w Γ.K mg base 6 f fd ["self", "one", "other"] (spZ Γ 3 f_Net_with_tie) :=
  have S := sc_Net_with_tie
  FunD.okZ F sc_Net_with_tie rfl (fun cdv A outer s H E z hg hr =>
  z_seq (sset 3 S.nd (qcall Cpair_of 0 hr (by decide) hg takesCx (ac (qfld Fown_places (qv 0)) (ac (qv 1) (ac (qv 2) an)))))
  (z_seq (z_if (PW.pt (w_or (tcmp (ceqX hr) (qv 1) (qv 2)) (pw_or1 (tcmp (cin hr) (qv 3) (qfld Fown_ties (qv 0)))))) (z_seq (sraise ErBadTie takesCx hr (by decide) (qtup (ac (qv 1) (ac (qv 2) an))))
  z_nil) z_nil)
  (z_seq (z_if (tcmp (ceqX hr) (qblt blen M (ac (qfld Fown_ties (qv 0)) an)) (qg GMOST_TIES)) (z_seq (sraise ErFull takesCx hr (by decide) (qg GMOST_TIES))
  z_nil) z_nil)
  (z_seq (z_ret (qmake MNet hr (by decide) hg takesCx (ac (qcall Ctext_of 0 hr (by decide) hg takesCx (ac (qfld Fown_places (qv 0)) (ac (qfld Fown_watchers (qv 0)) (ac (qstar (ast (qfld Fown_ties (qv 0)) (aco (qv 3) ano))) an)))) an)))
  z_nil))))
theorem sc__law_is_place : FnScope N__law_is_place ["_law_lore_here", "_law_value"] (defScope s__law_is_place) := ⟨rfl, rfl, rfl, by decide +kernel, rfl, by decide +kernel, by decide +kernel⟩
theorem c__law_is_place (F : FunD Γ.K "_law_is_place" "_law_is_place" (defArgs s__law_is_place) (defBody s__law_is_place) (defScope s__law_is_place) [] [] f fd) (hm : mg "_law_is_place" = some (.ref f)) (M : Bn mg) : Cal Γ P w mg base "_law_is_place" 1 2 [] f__law_is_place :=
  have S := sc__law_is_place
  calOf F hm sc__law_is_place rfl (fun cdv A outer s H E z hg hr =>
  z_seq (z_ret (z_and (qisi M (qv 1)) (pe_one (qcmp (cin hr) (qv 1) (qdix hr (qv 0) z_str)))))
  z_nil) (bind0 F fun _ _ _ _ _ _ us hl => match us, hl with | [_, _], _ => rfl)
theorem sc__law_is_refused : FnScope N__law_is_refused ["_law_caught", "_law_word", "_law_value"] (defScope s__law_is_refused) := ⟨rfl, rfl, rfl, by decide +kernel, rfl, by decide +kernel, by decide +kernel⟩
theorem c__law_is_refused (F : FunD Γ.K "_law_is_refused" "_law_is_refused" (defArgs s__law_is_refused) (defBody s__law_is_refused) (defScope s__law_is_refused) [] [] f fd) (hm : mg "_law_is_refused" = some (.ref f)) (M : Bn mg) (INoPlace : IsN Γ mg "NoPlace" (istOf [false, false, true, false, false, false, false, false, false])) (Xc : ∀ n, XcC Γ.K (Γ.cls n)) (IWatches : IsN Γ mg "Watches" (istOf [false, false, false, true, false, false, false, false, false])) (IFew : IsN Γ mg "Few" (istOf [false, false, false, false, false, true, false, false, false])) (INoWatcher : IsN Γ mg "NoWatcher" (istOf [false, false, false, false, true, false, false, false, false])) (IBadTie : IsN Γ mg "BadTie" (istOf [false, false, false, false, false, false, true, false, false])) (IFull : IsN Γ mg "Full" (istOf [false, false, false, false, false, false, false, true, false])) (ILast : IsN Γ mg "Last" (istOf [false, false, false, false, false, false, false, false, true])) : Cal Γ P w mg base "_law_is_refused" 1 3 [] f__law_is_refused :=
  have S := sc__law_is_refused
  calOf F hm sc__law_is_refused rfl (fun cdv A outer s H E z hg hr =>
  z_seq (ssetD 3 S.nd (qdctB (pd_cons (fun _ => qisc M Xc INoPlace (qv 0)) (pd_cons (fun _ => qisc M Xc IWatches (qv 0)) (pd_cons (fun _ => qisc M Xc IFew (qv 0)) pd_nil)))))
  (z_seq (sexpr (qupd 3 (qdct (pd_cons (fun _ => qisc M Xc INoWatcher (qv 0)) (pd_cons (fun _ => qisc M Xc IBadTie (qv 0)) pd_nil)))))
  (z_seq (sexpr (qupd 3 (qdct (pd_cons (fun _ => qisc M Xc IFull (qv 0)) (pd_cons (fun _ => qisc M Xc ILast (qv 0)) pd_nil)))))
  (z_seq (z_ret (z_and (qdix hr (qvarX 3) (qv 1)) (pe_one (qcmp (ceqX hr) (qblt (breprX hr hg) M (ac (qval Xc (qv 0)) an)) (qblt (breprX hr hg) M (ac (qv 2) an))))))
  z_nil)))) (bind0 F fun _ _ _ _ _ _ us hl => match us, hl with | [_, _, _], _ => rfl)
theorem sc__law_pair_of : FnScope N__law_pair_of ["_law_lore_here", "_law_one", "_law_other"] (defScope s__law_pair_of) := ⟨rfl, rfl, rfl, by decide +kernel, rfl, by decide +kernel, by decide +kernel⟩
theorem c__law_pair_of (F : FunD Γ.K "_law_pair_of" "_law_pair_of" (defArgs s__law_pair_of) (defBody s__law_pair_of) (defScope s__law_pair_of) [] [] f fd) (hm : mg "_law_pair_of" = some (.ref f)) (M : Bn mg) : Cal Γ P w mg base "_law_pair_of" 1 3 [] f__law_pair_of :=
  have S := sc__law_pair_of
  calOf F hm sc__law_pair_of rfl (fun cdv A outer s H E z hg hr =>
  z_seq (scompZ (scomp 3 S.nd (own := [("_law_place", 4)]) (iseq (qtup (ac (qv 1) (ac (qv 2) an)))) (by rfl) (fun _ _ _ _ _ _ => gname 4 S.nd) (fun _ _ _ _ _ _ => tno) (fun _ _ _ _ _ _ => qindex hr (qdix hr (qv 0) z_str) (qv 4))))
  (z_seq (z_ret (z_ite (tcmp clt (qidx (qv 3) z_int) (qidx (qv 3) z_int)) (qtup (ac (qv 1) (ac (qv 2) an))) (qtup (ac (qv 2) (ac (qv 1) an)))))
  z_nil)) (bind0 F fun _ _ _ _ _ _ us hl => match us, hl with | [_, _, _], _ => rfl)
theorem sc__law_with : FnScope N__law_with ["_law_lore_here", "_law_watchers", "_law_ties"] (defScope s__law_with) := ⟨rfl, rfl, rfl, by decide +kernel, rfl, by decide +kernel, by decide +kernel⟩
theorem c__law_with (F : FunD Γ.K "_law_with" "_law_with" (defArgs s__law_with) (defBody s__law_with) (defScope s__law_with) [] [] f fd) (hm : mg "_law_with" = some (.ref f)) (M : Bn mg) (C_law_made : Cal Γ P w mg base "_law_made" 1 3 [] f__law_made) : Cal Γ P w mg base "_law_with" 2 3 [] f__law_with :=
  have S := sc__law_with
  calOf F hm sc__law_with rfl (fun cdv A outer s H E z hg hr =>
  z_seq (z_ret (qcall C_law_made 0 hr (by decide) hg takesCx (ac (qdix hr (qv 0) z_str) (ac (qv 1) (ac (qv 2) an)))))
  z_nil) (bind0 F fun _ _ _ _ _ _ us hl => match us, hl with | [_, _, _], _ => rfl)
theorem sc_Net_places : FnScope N_Net_places ["self"] (defScope s_Net_places) := ⟨rfl, rfl, rfl, by decide +kernel, rfl, by decide +kernel, by decide +kernel⟩
theorem c_Net_places (F : FunD Γ.K "places" "Net.places" (defArgs s_Net_places) (defBody s_Net_places) (defScope s_Net_places) [] [] f fd) (M : Bn mg) (Fown_places : Fld Γ 0 "own_places" 0) : FnG P w Γ.K mg base 1 f fd ["self"] (spZ Γ 1 f_Net_places) :=
  have S := sc_Net_places
  FunD.okZ F sc_Net_places rfl (fun cdv A outer s H E z hg hr =>
  z_seq (z_ret (qfld Fown_places (qv 0)))
  z_nil)
theorem sc_Net_watchers : FnScope N_Net_watchers ["self"] (defScope s_Net_watchers) := ⟨rfl, rfl, rfl, by decide +kernel, rfl, by decide +kernel, by decide +kernel⟩
theorem c_Net_watchers (F : FunD Γ.K "watchers" "Net.watchers" (defArgs s_Net_watchers) (defBody s_Net_watchers) (defScope s_Net_watchers) [] [] f fd) (M : Bn mg) (Fown_watchers : Fld Γ 0 "own_watchers" 3) : FnG P w Γ.K mg base 1 f fd ["self"] (spZ Γ 1 f_Net_watchers) :=
  have S := sc_Net_watchers
  FunD.okZ F sc_Net_watchers rfl (fun cdv A outer s H E z hg hr =>
  z_seq (z_ret (qfld Fown_watchers (qv 0)))
  z_nil)
theorem sc_Net_ties : FnScope N_Net_ties ["self"] (defScope s_Net_ties) := ⟨rfl, rfl, rfl, by decide +kernel, rfl, by decide +kernel, by decide +kernel⟩
theorem c_Net_ties (F : FunD Γ.K "ties" "Net.ties" (defArgs s_Net_ties) (defBody s_Net_ties) (defScope s_Net_ties) [] [] f fd) (M : Bn mg) (Fown_ties : Fld Γ 0 "own_ties" 2) : FnG P w Γ.K mg base 1 f fd ["self"] (spZ Γ 1 f_Net_ties) :=
  have S := sc_Net_ties
  FunD.okZ F sc_Net_ties rfl (fun cdv A outer s H E z hg hr =>
  z_seq (z_ret (qfld Fown_ties (qv 0)))
  z_nil)
theorem sc_Net_text : FnScope N_Net_text ["self"] (defScope s_Net_text) := ⟨rfl, rfl, rfl, by decide +kernel, rfl, by decide +kernel, by decide +kernel⟩
theorem c_Net_text (F : FunD Γ.K "text" "Net.text" (defArgs s_Net_text) (defBody s_Net_text) (defScope s_Net_text) [] [] f fd) (M : Bn mg) (Fown_text : Fld Γ 0 "own_text" 1) : FnG P w Γ.K mg base 1 f fd ["self"] (spZ Γ 1 f_Net_text) :=
  have S := sc_Net_text
  FunD.okZ F sc_Net_text rfl (fun cdv A outer s H E z hg hr =>
  z_seq (z_ret (qfld Fown_text (qv 0)))
  z_nil)
theorem sc_Net___len__ : FnScope N_Net___len__ ["self"] (defScope s_Net___len__) := ⟨rfl, rfl, rfl, by decide +kernel, rfl, by decide +kernel, by decide +kernel⟩
theorem c_Net___len__ (F : FunD Γ.K "__len__" "Net.__len__" (defArgs s_Net___len__) (defBody s_Net___len__) (defScope s_Net___len__) [] [] f fd) (M : Bn mg) (Fown_ties : Fld Γ 0 "own_ties" 2) : FnG P w Γ.K mg base 1 f fd ["self"] (spZ Γ 1 f_Net___len__) :=
  have S := sc_Net___len__
  FunD.okZ F sc_Net___len__ rfl (fun cdv A outer s H E z hg hr =>
  z_seq (z_ret (qblt blen M (ac (qfld Fown_ties (qv 0)) an)))
  z_nil)
theorem sc__law_is_as_told : FnScope N__law_is_as_told ["_law_net_here", "_law_lore_here"] (defScope s__law_is_as_told) := ⟨rfl, rfl, rfl, by decide +kernel, rfl, by decide +kernel, by decide +kernel⟩
theorem c__law_is_as_told (F : FunD Γ.K "_law_is_as_told" "_law_is_as_told" (defArgs s__law_is_as_told) (defBody s__law_is_as_told) (defScope s__law_is_as_told) [] [] f fd) (hm : mg "_law_is_as_told" = some (.ref f)) (M : Bn mg) (C_law_text : Cal Γ P w mg base "_law_text" 1 1 [] f__law_text) (PNet_places : Prp Γ P w mg base 0 "places" 1 f_Net_places) (PNet_watchers : Prp Γ P w mg base 0 "watchers" 1 f_Net_watchers) (PNet_ties : Prp Γ P w mg base 0 "ties" 1 f_Net_ties) (PNet_text : Prp Γ P w mg base 0 "text" 1 f_Net_text) (SNet___len__ : Spc Γ P w mg base 0 "__len__" 1 1 f_Net___len__) : Cal Γ P w mg base "_law_is_as_told" 3 2 [] f__law_is_as_told :=
  have S := sc__law_is_as_told
  calOf F hm sc__law_is_as_told rfl (fun cdv A outer s H E z hg hr =>
  z_seq (z_if (tcmp (cneX hr) (qtup (ac (qprop PNet_places hr (by decide) hg (qv 0)) (ac (qprop PNet_watchers hr (by decide) hg (qv 0)) (ac (qprop PNet_ties hr (by decide) hg (qv 0)) an)))) (qtup (ac (qblt btuple M (ac (qdix hr (qv 1) z_str) an)) (ac (qblt btuple M (ac (qdix hr (qv 1) z_str) an)) (ac (qblt btuple M (ac (qdix hr (qv 1) z_str) an)) an))))) (z_seq (z_ret z_bl)
  z_nil) z_nil)
  (z_seq (z_ret (z_and (qcmp (ceqX hr) (qprop PNet_text hr (by decide) hg (qv 0)) (qcall C_law_text 0 hr (by decide) hg takesCx (ac (qv 1) an))) (pe_one (qcmp (ceqX hr) (qlenO SNet___len__ hr (by decide) hg M (qv 0)) (qblt blen M (ac (qdix hr (qv 1) z_str) an))))))
  z_nil)) (bind0 F fun _ _ _ _ _ _ us hl => match us, hl with | [_, _], _ => rfl)
theorem sc__law_is_in_right : FnScope N__law_is_in_right ["_law_lore_here", "_law_net_here", "_law_one", "_law_other"] (defScope s__law_is_in_right) := ⟨rfl, rfl, rfl, by decide +kernel, rfl, by decide +kernel, by decide +kernel⟩
theorem c__law_is_in_right (F : FunD Γ.K "_law_is_in_right" "_law_is_in_right" (defArgs s__law_is_in_right) (defBody s__law_is_in_right) (defScope s__law_is_in_right) [] [] f fd) (hm : mg "_law_is_in_right" = some (.ref f)) (M : Bn mg) (C_law_is_place : Cal Γ P w mg base "_law_is_place" 1 2 [] f__law_is_place) (C_law_is_refused : Cal Γ P w mg base "_law_is_refused" 1 3 [] f__law_is_refused) (C_law_pair_of : Cal Γ P w mg base "_law_pair_of" 1 3 [] f__law_pair_of) (C_law_with : Cal Γ P w mg base "_law_with" 2 3 [] f__law_with) (C_law_is_as_told : Cal Γ P w mg base "_law_is_as_told" 3 2 [] f__law_is_as_told) (Hd : Hrd Γ mg) (QNet_with_tie : Mth Γ P w mg base 0 "with_tie" 6 2 f_Net_with_tie) (TL : LamF Γ mg base fd "_law_is_in_right") : Cal Γ P w mg base "_law_is_in_right" 9 4 [] f__law_is_in_right :=
  have S := sc__law_is_in_right
  calOfL F hm sc__law_is_in_right rfl (fun cdv A outer s H E z hg hr hcd =>
  z_seq (sasg (qheard (k := 6) Hd (lamT_of TL hcd) hg hr (by decide) (fun A outer s H E f c hg hr => qmeth QNet_with_tie hr (by decide) hg takesLam (qv 1) (ac (qv 2) (ac (qv 3) an)))) (gtuple (gscons (gname 7 S.nd) (gscons (gname 8 S.nd) z_gnil))))
  (z_seq (sfor ownsCx (iseq (qtup (ac (qv 2) (ac (qv 3) an)))) (gname 4 S.nd) (z_seq (z_if (z_notT (tval (qcall C_law_is_place 0 hr (by decide) hg takesCx (ac (qv 0) (ac (qv 4) an))))) (z_seq (z_ret (qcall C_law_is_refused 0 hr (by decide) hg takesCx (ac (qv 7) (ac z_str (ac (qv 4) an)))))
  z_nil) z_nil)
  z_nil))
  (z_seq (sset 5 S.nd (qcall C_law_pair_of 0 hr (by decide) hg takesCx (ac (qv 0) (ac (qv 2) (ac (qv 3) an)))))
  (z_seq (z_if (PW.pt (w_or (tcmp (ceqX hr) (qv 2) (qv 3)) (pw_or1 (tcmp (cin hr) (qv 5) (qdix hr (qv 0) z_str))))) (z_seq (z_ret (qcall C_law_is_refused 0 hr (by decide) hg takesCx (ac (qv 7) (ac z_str (ac (qtup (ac (qv 2) (ac (qv 3) an))) an)))))
  z_nil) z_nil)
  (z_seq (z_if (tcmp (ceqX hr) (qblt blen M (ac (qdix hr (qv 0) z_str) an)) z_int) (z_seq (z_ret (qcall C_law_is_refused 0 hr (by decide) hg takesCx (ac (qv 7) (ac z_str (ac z_int an)))))
  z_nil) z_nil)
  (z_seq (sset 6 S.nd (qcall C_law_with 0 hr (by decide) hg takesCx (ac (qv 0) (ac (qdix hr (qv 0) z_str) (ac (qadd (qdix hr (qv 0) z_str) (z_frz (flst (ac (qv 5) an)))) an)))))
  (z_seq (z_ret (z_and (qcmp cis (qv 7) z_non) (pe_one (qcall C_law_is_as_told 0 hr (by decide) hg takesCx (ac (qv 8) (ac (qv 6) an))))))
  z_nil))))))) (bind0 F fun _ _ _ _ _ _ us hl => match us, hl with | [_, _, _, _], _ => rfl)
theorem sc_Net_without_tie : FnScope N_Net_without_tie ["self", "one", "other"] (defScope s_Net_without_tie) := ⟨rfl, rfl, rfl, by decide +kernel, rfl, by decide +kernel, by decide +kernel⟩
theorem c_Net_without_tie (F : FunD Γ.K "without_tie" "Net.without_tie" (defArgs s_Net_without_tie) (defBody s_Net_without_tie) (defScope s_Net_without_tie) [] [] f fd) (M : Bn mg) (Cpair_of : Cal Γ P w mg base "pair_of" 4 3 [] f_pair_of) (Ctext_of : Cal Γ P w mg base "text_of" 1 3 [] f_text_of) (Fown_places : Fld Γ 0 "own_places" 0) (Fown_ties : Fld Γ 0 "own_ties" 2) (ErBadTie : Erc Γ P w mg base "BadTie" 6) (ErLast : Erc Γ P w mg base "Last" 8) (Fown_watchers : Fld Γ 0 "own_watchers" 3) (MNet : Mak Γ P w mg base "Net" 4 1 f_Net___init__) : FnG P w Γ.K mg base 6 f fd ["self", "one", "other"] (spZ Γ 3 f_Net_without_tie) :=
  have S := sc_Net_without_tie
  FunD.okZ F sc_Net_without_tie rfl (fun cdv A outer s H E z hg hr =>
  z_seq (sset 3 S.nd (qcall Cpair_of 0 hr (by decide) hg takesCx (ac (qfld Fown_places (qv 0)) (ac (qv 1) (ac (qv 2) an)))))
  (z_seq (z_if (tcmp (cnin hr) (qv 3) (qfld Fown_ties (qv 0))) (z_seq (sraise ErBadTie takesCx hr (by decide) (qtup (ac (qv 1) (ac (qv 2) an))))
  z_nil) z_nil)
  (z_seq (z_if (tcmp (ceqX hr) (qblt blen M (ac (qfld Fown_ties (qv 0)) an)) z_int) (z_seq (sraise ErLast takesCx hr (by decide) (qtup (ac (qv 1) (ac (qv 2) an))))
  z_nil) z_nil)
  (z_seq (z_ret (qmake MNet hr (by decide) hg takesCx (ac (qcall Ctext_of 0 hr (by decide) hg takesCx (ac (qfld Fown_places (qv 0)) (ac (qfld Fown_watchers (qv 0)) (ac (z_frz (fcomp S.nd (own := [("tie", 4)]) (iseq (qfld Fown_ties (qv 0))) (by rfl) (fun _ _ _ _ _ _ => gname 4 S.nd) (fun _ _ _ _ _ _ => tone (tcmp (cneX hr) (qv 4) (qv 3))) (fun _ _ _ _ _ _ => qv 4))) an)))) an)))
  z_nil))))
theorem sc__law_is_out_right : FnScope N__law_is_out_right ["_law_lore_here", "_law_net_here", "_law_one", "_law_other"] (defScope s__law_is_out_right) := ⟨rfl, rfl, rfl, by decide +kernel, rfl, by decide +kernel, by decide +kernel⟩
theorem c__law_is_out_right (F : FunD Γ.K "_law_is_out_right" "_law_is_out_right" (defArgs s__law_is_out_right) (defBody s__law_is_out_right) (defScope s__law_is_out_right) [] [] f fd) (hm : mg "_law_is_out_right" = some (.ref f)) (M : Bn mg) (C_law_is_place : Cal Γ P w mg base "_law_is_place" 1 2 [] f__law_is_place) (C_law_is_refused : Cal Γ P w mg base "_law_is_refused" 1 3 [] f__law_is_refused) (C_law_pair_of : Cal Γ P w mg base "_law_pair_of" 1 3 [] f__law_pair_of) (C_law_is_as_told : Cal Γ P w mg base "_law_is_as_told" 3 2 [] f__law_is_as_told) (C_law_with : Cal Γ P w mg base "_law_with" 2 3 [] f__law_with) (Hd : Hrd Γ mg) (QNet_without_tie : Mth Γ P w mg base 0 "without_tie" 6 2 f_Net_without_tie) (TL : LamF Γ mg base fd "_law_is_out_right") : Cal Γ P w mg base "_law_is_out_right" 9 4 [] f__law_is_out_right :=
  have S := sc__law_is_out_right
  calOfL F hm sc__law_is_out_right rfl (fun cdv A outer s H E z hg hr hcd =>
  z_seq (sasg (qheard (k := 6) Hd (lamT_of TL hcd) hg hr (by decide) (fun A outer s H E f c hg hr => qmeth QNet_without_tie hr (by decide) hg takesLam (qv 1) (ac (qv 2) (ac (qv 3) an)))) (gtuple (gscons (gname 7 S.nd) (gscons (gname 8 S.nd) z_gnil))))
  (z_seq (sfor ownsCx (iseq (qtup (ac (qv 2) (ac (qv 3) an)))) (gname 4 S.nd) (z_seq (z_if (z_notT (tval (qcall C_law_is_place 0 hr (by decide) hg takesCx (ac (qv 0) (ac (qv 4) an))))) (z_seq (z_ret (qcall C_law_is_refused 0 hr (by decide) hg takesCx (ac (qv 7) (ac z_str (ac (qv 4) an)))))
  z_nil) z_nil)
  z_nil))
  (z_seq (sset 5 S.nd (qcall C_law_pair_of 0 hr (by decide) hg takesCx (ac (qv 0) (ac (qv 2) (ac (qv 3) an)))))
  (z_seq (z_if (tcmp (cnin hr) (qv 5) (qdix hr (qv 0) z_str)) (z_seq (z_ret (qcall C_law_is_refused 0 hr (by decide) hg takesCx (ac (qv 7) (ac z_str (ac (qtup (ac (qv 2) (ac (qv 3) an))) an)))))
  z_nil) z_nil)
  (z_seq (z_if (tcmp (ceqX hr) (qblt blen M (ac (qdix hr (qv 0) z_str) an)) z_int) (z_seq (z_ret (qcall C_law_is_refused 0 hr (by decide) hg takesCx (ac (qv 7) (ac z_str (ac (qtup (ac (qv 2) (ac (qv 3) an))) an)))))
  z_nil) z_nil)
  (z_seq (scompZ (scomp 6 S.nd (own := [("_law_tie", 9)]) (iseq (qdix hr (qv 0) z_str)) (by rfl) (fun _ _ _ _ _ _ => gname 9 S.nd) (fun _ _ _ _ _ _ => tone (tcmp (cneX hr) (qv 9) (qv 5))) (fun _ _ _ _ _ _ => qv 9)))
  (z_seq (z_ret (z_and (qcmp cis (qv 7) z_non) (pe_one (qcall C_law_is_as_told 0 hr (by decide) hg takesCx (ac (qv 8) (ac (qcall C_law_with 0 hr (by decide) hg takesCx (ac (qv 0) (ac (qdix hr (qv 0) z_str) (ac (qv 6) an)))) an))))))
  z_nil))))))) (bind0 F fun _ _ _ _ _ _ us hl => match us, hl with | [_, _, _, _], _ => rfl)
theorem sc__law_right : FnScope N__law_right ["_law_pot_here"] (defScope s__law_right) := ⟨rfl, rfl, rfl, by decide +kernel, rfl, by decide +kernel, by decide +kernel⟩
theorem c__law_right (F : FunD Γ.K "_law_right" "_law_right" (defArgs s__law_right) (defBody s__law_right) (defScope s__law_right) [] [] f fd) (hm : mg "_law_right" = some (.ref f)) (M : Bn mg) (C_law_lore : Cal Γ P w mg base "_law_lore" 4 4 [] f__law_lore) (C_law_take : Cal Γ P w mg base "_law_take" 1 2 [] f__law_take) (C_law_pairs : Cal Γ P w mg base "_law_pairs" 1 1 [] f__law_pairs) (C_law_some : Cal Γ P w mg base "_law_some" 2 3 [] f__law_some) (C_law_net : Cal Γ P w mg base "_law_net" 6 1 [] f__law_net) (C_law_odd : Cal Γ P w mg base "_law_odd" 3 1 [] f__law_odd) (C_law_is_in_right : Cal Γ P w mg base "_law_is_in_right" 9 4 [] f__law_is_in_right) (C_law_is_out_right : Cal Γ P w mg base "_law_is_out_right" 9 4 [] f__law_is_out_right) (C_law_is_as_told : Cal Γ P w mg base "_law_is_as_told" 3 2 [] f__law_is_as_told) (B__law_lore : CalF Γ P w mg base "_law_lore" 4 4 f__law_lore) : Cal Γ P w mg base "_law_right" 10 1 [] f__law_right :=
  have S := sc__law_right
  calOf F hm sc__law_right rfl (fun cdv A outer s H E z hg hr =>
  z_seq (par2 3 4 S.nd (snewD' (qcallF B__law_lore hr (by decide) hg takesCx (ac (qv 0) (ac z_int (ac z_int (ac z_int an))))) (fun _ => sval' (qcall C_law_take 0 hr (by decide) hg takesCx (ac (qv 0) (ac z_int an))) s_nil)))
  (z_seq (sset 1 S.nd (qcall C_law_pairs 0 hr (by decide) hg takesCx (ac (qdixK 3 hr) an)))
  (z_seq (z_if (tcmp (ceqX hr) (qv 4) z_int) (z_seq (sputK 3 hr (qslice (qdixK 3 hr) o_none (o_some z_int)))
  z_nil) z_nil)
  (z_seq (z_if (PW.pt (w_and (tcmp (ceqX hr) (qv 4) z_int) (pw_and1 (tcmp cgt (qblt blen M (ac (qv 1) an)) z_int)))) (z_seq (sputK 3 hr (qcall C_law_some 0 hr (by decide) hg takesCx (ac (qv 0) (ac (qv 1) (ac z_int an)))))
  z_nil) z_nil)
  (z_seq (par2 5 6 S.nd (sval' (qcall C_law_net 0 hr (by decide) hg takesCx (ac (qvarX 3) an)) (sval' (qadd (qdixK 3 hr) (z_frz (flst (ac z_str (ac z_non (ac z_int (ac (qtup an) (ac (z_frz (flst an)) (ac (qcall C_law_odd 0 hr (by decide) hg takesCx (ac (qv 0) an)) an))))))))) s_nil)))
  (z_seq (sfor ownsCx (iseq (qv 6)) (gname 2 S.nd) (z_seq (sfor ownsCx (iseq (qv 6)) (gname 7 S.nd) (z_seq (z_if (PW.pt (w_or (z_notT (tval (qcall C_law_is_in_right 0 hr (by decide) hg takesCx (ac (qvarX 3) (ac (qv 5) (ac (qv 2) (ac (qv 7) an))))))) (pw_or1 (z_notT (tval (qcall C_law_is_out_right 0 hr (by decide) hg takesCx (ac (qvarX 3) (ac (qv 5) (ac (qv 2) (ac (qv 7) an)))))))))) (z_seq (z_ret z_bl)
  z_nil) z_nil)
  z_nil))
  z_nil))
  (z_seq (z_ret (qcall C_law_is_as_told 0 hr (by decide) hg takesCx (ac (qv 5) (ac (qvarX 3) an))))
  z_nil))))))) (bind0 F fun _ _ _ _ _ _ us hl => match us, hl with | [_], _ => rfl)
theorem sc_law : FnScope N_law ["_law_script"] (defScope s_law) := ⟨rfl, rfl, rfl, by decide +kernel, rfl, by decide +kernel, by decide +kernel⟩
theorem cF__law_made (F : FunD Γ.K "_law_made" "_law_made" (defArgs s__law_made) (defBody s__law_made) (defScope s__law_made) [] [] f fd) (hm : mg "_law_made" = some (.ref f)) (M : Bn mg) : CalF Γ P w mg base "_law_made" 1 3 f__law_made :=
  have S := sc__law_made
  calFOf F hm sc__law_made rfl (fun cdv A outer s H E z hg hr =>
  z_seq (z_retD (pd_cons (fun _ => z_frz (flist M (ac (qv 0) an))) (pd_cons (fun _ => z_frz (fcomp S.nd (own := [("_law_one", 3)]) (iseq (qv 0)) (by rfl) (fun _ _ _ _ _ _ => gname 3 S.nd) (fun _ _ _ _ _ _ => tone (tcmp (cin hr) (qv 3) (qv 1))) (fun _ _ _ _ _ _ => qv 3))) (pd_cons (fun _ => z_frz (flist M (ac (qv 2) an))) pd_nil))))
  z_nil) (F.bindsN fun _ _ _ _ _ _ us hl => match us, hl with | [_, _, _], _ => rfl)
theorem cF__law_lore (F : FunD Γ.K "_law_lore" "_law_lore" (defArgs s__law_lore) (defBody s__law_lore) (defScope s__law_lore) [] [] f fd) (hm : mg "_law_lore" = some (.ref f)) (M : Bn mg) (C_law_names : Cal Γ P w mg base "_law_names" 3 2 [] f__law_names) (C_law_take : Cal Γ P w mg base "_law_take" 1 2 [] f__law_take) (C_law_pairs : Cal Γ P w mg base "_law_pairs" 1 1 [] f__law_pairs) (C_law_of : Cal Γ P w mg base "_law_of" 2 2 [] f__law_of) (C_law_some : Cal Γ P w mg base "_law_some" 2 3 [] f__law_some) (C_law_made : Cal Γ P w mg base "_law_made" 1 3 [] f__law_made) (B__law_made : CalF Γ P w mg base "_law_made" 1 3 f__law_made) : CalF Γ P w mg base "_law_lore" 4 4 f__law_lore :=
  have S := sc__law_lore
  calFOf F hm sc__law_lore rfl (fun cdv A outer s H E z hg hr =>
  z_seq (sset 4 S.nd (qcall C_law_names 0 hr (by decide) hg takesCx (ac (qv 0) (ac (qadd (qv 1) (qcall C_law_take 0 hr (by decide) hg takesCx (ac (qv 0) (ac (qadd (qsub (qv 2) (qv 1)) z_int) an)))) an))))
  (z_seq (npar (is := [9, 7]) (sval' (qcall C_law_pairs 0 hr (by decide) hg takesCx (ac (qv 4) an)) (snew' (flst an) (fun _ => s_nil))) (gn 9 S.nd (gn 7 S.nd gn0)))
  (z_seq (z_if (tcmp cgt (qcall C_law_take 0 hr (by decide) hg takesCx (ac (qv 0) (ac z_int an))) z_int) (z_seq (sfor ownsCx (ienum M (ac (qslice (qv 4) (o_some z_int) o_none) an)) (gtuple (gscons (gname 10 S.nd) (gscons (gname 11 S.nd) z_gnil))) (z_seq (sexpr (qbld 7 mappend (ac (qtup (ac (qcall C_law_of 0 hr (by decide) hg takesCx (ac (qv 0) (ac (qslice (qv 4) o_none (o_some (qadd (qv 10) z_int))) an))) (ac (qv 11) an))) an)))
  z_nil))
  z_nil) z_nil)
  (z_seq (scompZ (scomp 5 S.nd (own := [("_law_pair", 12)]) (iseq (qv 9)) (by rfl) (fun _ _ _ _ _ _ => gname 12 S.nd) (fun _ _ _ _ _ _ => tone (tninB 7 hr (qv 12))) (fun _ _ _ _ _ _ => qv 12)))
  (z_seq (sset 6 S.nd (qblt bmax M (ac z_int (ac (qsub (qblt bmin M (ac (qv 3) (ac z_int an))) (qlenP 7 M)) an))))
  (z_seq (sset 7 S.nd (qadd (qv 7) (qcall C_law_some 0 hr (by decide) hg takesCx (ac (qv 0) (ac (qv 5) (ac (qblt bmin M (ac (qblt blen M (ac (qv 5) an)) (ac (qcall C_law_take 0 hr (by decide) hg takesCx (ac (qv 0) (ac (qadd (qv 6) z_int) an))) an))) an))))))
  (z_seq (sset 7 S.nd (z_ite (tcmp (cneX hr) (qv 7) (z_frz (flst an))) (qv 7) (qslice (qv 9) o_none (o_some z_int))))
  (z_seq (sset 8 S.nd (qcall C_law_some 0 hr (by decide) hg takesCx (ac (qv 0) (ac (qv 4) (ac (qadd z_int (qcall C_law_take 0 hr (by decide) hg takesCx (ac (qv 0) (ac (qsub (qblt blen M (ac (qv 4) an)) z_int) an)))) an)))))
  (z_seq (z_retF B__law_made hr (by decide) hg takesCx (ac (qv 4) (ac (qv 8) (ac (qcall C_law_some 0 hr (by decide) hg takesCx (ac (qv 0) (ac (qv 7) (ac (qlenP 7 M) an)))) an))))
  z_nil))))))))) (F.bindsN fun _ _ _ _ _ _ us hl => match us, hl with | [_, _, _, _], _ => rfl)
theorem okLaw (F : FunD Γ.K "law" "law" (defArgs s_law) (defBody s_law) (defScope s_law) [] [] f fd) (M : Bn mg) (C_law_cells : Cal Γ P w mg base "_law_cells" 1 2 [] f__law_cells) (C_law_pot : Cal Γ P w mg base "_law_pot" 1 2 [] f__law_pot) (C_law_right : Cal Γ P w mg base "_law_right" 10 1 [] f__law_right) : FnG P w Γ.K mg base 11 f fd ["_law_script"] (spZ Γ 1 f_law) :=
  have S := sc_law
  FunD.okZ F sc_law rfl (fun cdv A outer s H E z hg hr =>
  z_seq (sfor ownsCx (iseq (qcall C_law_cells 0 hr (by decide) hg takesCx (ac (qv 0) (ac z_int an)))) (gname 1 S.nd) (z_seq (sset 2 S.nd (qcall C_law_pot 0 hr (by decide) hg takesCx (ac (qv 0) (ac (qv 1) an))))
  (z_seq (z_if (z_notT (tval (qblt ball M (ac (z_frz (fcomp S.nd (own := [("_law_lap", 3)]) (irange M (ac z_int an)) (by rfl) (fun _ _ _ _ _ _ => gname 3 S.nd) (fun _ _ _ _ _ _ => tno) (fun _ _ _ _ _ _ => qcall C_law_right 0 hr (by decide) hg takes0 (ac (qv 2) an)))) an)))) (z_seq (z_ret z_bl)
  z_nil) z_nil)
  z_nil)))
  (z_seq (z_ret z_bl)
  z_nil))
end
end Z

set_option Elab.async false
set_option linter.all false
set_option maxRecDepth 100000
set_option maxHeartbeats 2000000
namespace Z
open PySem PySem.Spec PyProof.Rows L2 RZ
/-! the head -/
def d__law_cells : He.DefD := ⟨("_law_cells", none), "_law_cells", "_law_cells", defArgs s__law_cells, defBody s__law_cells, defScope s__law_cells, [], []⟩
def d__law_pot : He.DefD := ⟨("_law_pot", none), "_law_pot", "_law_pot", defArgs s__law_pot, defBody s__law_pot, defScope s__law_pot, [], []⟩
def d__law_take : He.DefD := ⟨("_law_take", none), "_law_take", "_law_take", defArgs s__law_take, defBody s__law_take, defScope s__law_take, [], []⟩
def d__law_some : He.DefD := ⟨("_law_some", none), "_law_some", "_law_some", defArgs s__law_some, defBody s__law_some, defScope s__law_some, [], []⟩
def d__law_names : He.DefD := ⟨("_law_names", none), "_law_names", "_law_names", defArgs s__law_names, defBody s__law_names, defScope s__law_names, [], []⟩
def d__law_pairs : He.DefD := ⟨("_law_pairs", none), "_law_pairs", "_law_pairs", defArgs s__law_pairs, defBody s__law_pairs, defScope s__law_pairs, [], []⟩
def d__law_of : He.DefD := ⟨("_law_of", none), "_law_of", "_law_of", defArgs s__law_of, defBody s__law_of, defScope s__law_of, [], []⟩
def d__law_made : He.DefD := ⟨("_law_made", none), "_law_made", "_law_made", defArgs s__law_made, defBody s__law_made, defScope s__law_made, [], []⟩
def d__law_lore : He.DefD := ⟨("_law_lore", none), "_law_lore", "_law_lore", defArgs s__law_lore, defBody s__law_lore, defScope s__law_lore, [], []⟩
def d_is_name : He.DefD := ⟨("is_name", none), "is_name", "is_name", defArgs s_is_name, defBody s_is_name, defScope s_is_name, [], []⟩
def d_places_in : He.DefD := ⟨("places_in", none), "places_in", "places_in", defArgs s_places_in, defBody s_places_in, defScope s_places_in, [], []⟩
def d_is_word : He.DefD := ⟨("is_word", none), "is_word", "is_word", defArgs s_is_word, defBody s_is_word, defScope s_is_word, [], []⟩
def d_in_sequence : He.DefD := ⟨("in_sequence", none), "in_sequence", "in_sequence", defArgs s_in_sequence, defBody s_in_sequence, defScope s_in_sequence, [], []⟩
def d_is_lot : He.DefD := ⟨("is_lot", none), "is_lot", "is_lot", defArgs s_is_lot, defBody s_is_lot, defScope s_is_lot, [], []⟩
def d_watchers_in : He.DefD := ⟨("watchers_in", none), "watchers_in", "watchers_in", defArgs s_watchers_in, defBody s_watchers_in, defScope s_watchers_in, [], []⟩
def d_tie_in : He.DefD := ⟨("tie_in", none), "tie_in", "tie_in", defArgs s_tie_in, defBody s_tie_in, defScope s_tie_in, [], []⟩
def d_Net___init__ : He.DefD := ⟨("Net", some "__init__"), "__init__", "Net.__init__", defArgs s_Net___init__, defBody s_Net___init__, defScope s_Net___init__, [], []⟩
def d__law_text : He.DefD := ⟨("_law_text", none), "_law_text", "_law_text", defArgs s__law_text, defBody s__law_text, defScope s__law_text, [], []⟩
def d__law_net : He.DefD := ⟨("_law_net", none), "_law_net", "_law_net", defArgs s__law_net, defBody s__law_net, defScope s__law_net, [], []⟩
def d__law_odd : He.DefD := ⟨("_law_odd", none), "_law_odd", "_law_odd", defArgs s__law_odd, defBody s__law_odd, defScope s__law_odd, [], []⟩
def d_check_place : He.DefD := ⟨("check_place", none), "check_place", "check_place", defArgs s_check_place, defBody s_check_place, defScope s_check_place, [], []⟩
def d_pair_of : He.DefD := ⟨("pair_of", none), "pair_of", "pair_of", defArgs s_pair_of, defBody s_pair_of, defScope s_pair_of, [], []⟩
def d_text_of : He.DefD := ⟨("text_of", none), "text_of", "text_of", defArgs s_text_of, defBody s_text_of, defScope s_text_of, [], []⟩
def d_Net_with_tie : He.DefD := ⟨("Net", some "with_tie"), "with_tie", "Net.with_tie", defArgs s_Net_with_tie, defBody s_Net_with_tie, defScope s_Net_with_tie, [], []⟩
def d__law_is_place : He.DefD := ⟨("_law_is_place", none), "_law_is_place", "_law_is_place", defArgs s__law_is_place, defBody s__law_is_place, defScope s__law_is_place, [], []⟩
def d__law_is_refused : He.DefD := ⟨("_law_is_refused", none), "_law_is_refused", "_law_is_refused", defArgs s__law_is_refused, defBody s__law_is_refused, defScope s__law_is_refused, [], []⟩
def d__law_pair_of : He.DefD := ⟨("_law_pair_of", none), "_law_pair_of", "_law_pair_of", defArgs s__law_pair_of, defBody s__law_pair_of, defScope s__law_pair_of, [], []⟩
def d__law_with : He.DefD := ⟨("_law_with", none), "_law_with", "_law_with", defArgs s__law_with, defBody s__law_with, defScope s__law_with, [], []⟩
def d_Net_places : He.DefD := ⟨("Net", some "places"), "places", "Net.places", defArgs s_Net_places, defBody s_Net_places, defScope s_Net_places, [], []⟩
def d_Net_watchers : He.DefD := ⟨("Net", some "watchers"), "watchers", "Net.watchers", defArgs s_Net_watchers, defBody s_Net_watchers, defScope s_Net_watchers, [], []⟩
def d_Net_ties : He.DefD := ⟨("Net", some "ties"), "ties", "Net.ties", defArgs s_Net_ties, defBody s_Net_ties, defScope s_Net_ties, [], []⟩
def d_Net_text : He.DefD := ⟨("Net", some "text"), "text", "Net.text", defArgs s_Net_text, defBody s_Net_text, defScope s_Net_text, [], []⟩
def d_Net___len__ : He.DefD := ⟨("Net", some "__len__"), "__len__", "Net.__len__", defArgs s_Net___len__, defBody s_Net___len__, defScope s_Net___len__, [], []⟩
def d__law_is_as_told : He.DefD := ⟨("_law_is_as_told", none), "_law_is_as_told", "_law_is_as_told", defArgs s__law_is_as_told, defBody s__law_is_as_told, defScope s__law_is_as_told, [], []⟩
def d__law_is_in_right : He.DefD := ⟨("_law_is_in_right", none), "_law_is_in_right", "_law_is_in_right", defArgs s__law_is_in_right, defBody s__law_is_in_right, defScope s__law_is_in_right, [], []⟩
def d_Net_without_tie : He.DefD := ⟨("Net", some "without_tie"), "without_tie", "Net.without_tie", defArgs s_Net_without_tie, defBody s_Net_without_tie, defScope s_Net_without_tie, [], []⟩
def d__law_is_out_right : He.DefD := ⟨("_law_is_out_right", none), "_law_is_out_right", "_law_is_out_right", defArgs s__law_is_out_right, defBody s__law_is_out_right, defScope s__law_is_out_right, [], []⟩
def d__law_right : He.DefD := ⟨("_law_right", none), "_law_right", "_law_right", defArgs s__law_right, defBody s__law_right, defScope s__law_right, [], []⟩
def d_law : He.DefD := ⟨("law", none), "law", "law", defArgs s_law, defBody s_law, defScope s_law, [], []⟩
def d__law_heard : He.DefD := ⟨("_law_heard", none), "_law_heard", "_law_heard", defArgs s__law_heard, defBody s__law_heard, defScope s__law_heard, [], []⟩
def fnD : List He.DefD := [d__law_cells, d__law_pot, d__law_take, d__law_some, d__law_names, d__law_pairs, d__law_of, d__law_made, d__law_lore, d_is_name, d_places_in, d_is_word, d_in_sequence, d_is_lot, d_watchers_in, d_tie_in, d__law_text, d__law_net, d__law_odd, d_check_place, d_pair_of, d_text_of, d__law_is_place, d__law_is_refused, d__law_pair_of, d__law_with, d__law_is_as_told, d__law_is_in_right, d__law_is_out_right, d__law_right, d_law, d__law_heard, d_Net___init__, d_Net_with_tie, d_Net___len__, d_Net_without_tie]
def pnD : List PrD := [(("Net", "places"), d_Net_places), (("Net", "watchers"), d_Net_watchers), (("Net", "ties"), d_Net_ties), (("Net", "text"), d_Net_text)]
def faD : List He.Fa := [.free "abs", .free "all", .free "any", .free "bool", .free "dict", .free "enumerate", .free "int", .free "isinstance", .free "len", .free "list", .free "max", .free "min", .free "range", .free "repr", .free "set", .free "sorted", .free "str", .free "sum", .free "tuple", .free "zip", .glo "_law_cells", .glo "_law_pot", .glo "_law_take", .glo "_law_some", .glo "_law_names", .glo "_law_pairs", .glo "_law_of", .glo "_law_made", .glo "_law_lore", .glo "is_name", .glo "places_in", .glo "is_word", .glo "in_sequence", .glo "is_lot", .glo "watchers_in", .glo "tie_in", .glo "_law_text", .glo "_law_net", .glo "_law_odd", .glo "check_place", .glo "pair_of", .glo "text_of", .glo "_law_is_place", .glo "_law_is_refused", .glo "_law_pair_of", .glo "_law_with", .glo "_law_is_as_told", .glo "_law_is_in_right", .glo "_law_is_out_right", .glo "_law_right", .glo "law", .glo "_law_heard"]
def csD : List (Str × D) := [("BLANK", .str " "), ("FEED", .str "\n"), ("LETTERS", .str "abcdefghijklmnopqrstuvwxyz"), ("MOST_LETTERS", .int 8), ("PLACES", .str "places"), ("WATCHERS", .str "watchers"), ("TIE", .str "tie"), ("PAIR", .int 2), ("LEAST_PLACES", .int 3), ("MOST_PLACES", .int 8), ("MOST_TIES", .int 14)]
def iniD : IniW := some ("__init__", "TieError.__init__", defArgs s_init, .stmts (defBody s_init), defScope s_init, mainGlobals, ["__class__"], builtinsNs)
def tfD : List He.Defn := [("_law_is_in_right", none), ("_law_is_out_right", none)]
def ecD : List Str := ["TieError", "BadNet", "NoPlace", "Watches", "NoWatcher", "Few", "BadTie", "Full", "Last"]
def clD : List (Str × Option (List Str)) := [("Net", none)]
def o_Net : OwnD := ⟨"Net", [("own_text", 1), ("own_places", 0), ("own_watchers", 3), ("own_ties", 2)], ["places", "watchers", "ties", "text"], ["__init__", "with_tie", "__len__", "without_tie"]⟩
def owD : List OwnD := [o_Net]
def isoD : List (Str × List Bool) := [("BadTie", [false, false, false, false, false, false, true, false, false]), ("Few", [false, false, false, false, false, true, false, false, false]), ("Full", [false, false, false, false, false, false, false, true, false]), ("Last", [false, false, false, false, false, false, false, false, true]), ("NoPlace", [false, false, true, false, false, false, false, false, false]), ("NoWatcher", [false, false, false, false, true, false, false, false, false]), ("Watches", [false, false, false, true, false, false, false, false, false])]
def isbD : List (String × List Bool) := []
def fileD : Str := PySem.Challenge.pw_tiesums_k08_ties_put_in_and_taken_out.main.file
def o2D : List Str := []
abbrev exD : PySem.W.Frag → Bool := exV csD fileD ecD isoD isbD tfD owD o2D
theorem facts {w : World} {Γ : Gm} {h : Heap} {mg : Str → Option Value} {fl : Addr} (X : Γ.K.In h) (G : h.Ns mainGlobals mg) (hfa : mg ("law" : Str) = some (.ref fl)) (hcl : Γ.cls = clsOf Γ.K ecD) (hT : Γ.T = tabsY Γ.K tfD) (hOw : Γ.own = ownOf Γ.K clD) (cU : SaysU faD fnD pnD iniD tfD exD h Γ.K) :
    ∃ fd : FuncData, (∀ (s : Shared) (v : Value), BindsTo s fd ⟨[v], []⟩ [("_law_script", v)]) ∧ ∀ base : Heap, Γ.K.In base → base.Ns mainGlobals mg → (∀ p ∈ tfD.map (He.cT Γ.K), LamX.TabB base mg p.1 p.2) → FnG PySem.Challenge.pw_tiesums_k08_ties_put_in_and_taken_out w Γ.K mg base 11 fl fd ["_law_script"] (spZ Γ 1 f_law) := by
  have c := cU.y
  obtain ⟨Y, YO, Y2⟩ := moreV c.more
  have M : Bn mg := by
    intro x hx
    have key : ∀ y ∈ [("abs" : Str), ("all" : Str), ("any" : Str), ("bool" : Str), ("dict" : Str), ("enumerate" : Str), ("int" : Str), ("isinstance" : Str), ("len" : Str), ("list" : Str), ("max" : Str), ("min" : Str), ("range" : Str), ("repr" : Str), ("set" : Str), ("sorted" : Str), ("str" : Str), ("sum" : Str), ("tuple" : Str), ("zip" : Str)], mg y = none := by
      intro y hy
      simp only [List.mem_cons, List.not_mem_nil, or_false] at hy
      rcases hy with rfl | rfl | rfl | rfl | rfl | rfl | rfl | rfl | rfl | rfl | rfl | rfl | rfl | rfl | rfl | rfl | rfl | rfl | rfl | rfl
      · exact He.free_ok X G (c.d.fact 0 (f := .free "abs") rfl)
      · exact He.free_ok X G (c.d.fact 1 (f := .free "all") rfl)
      · exact He.free_ok X G (c.d.fact 2 (f := .free "any") rfl)
      · exact He.free_ok X G (c.d.fact 3 (f := .free "bool") rfl)
      · exact He.free_ok X G (c.d.fact 4 (f := .free "dict") rfl)
      · exact He.free_ok X G (c.d.fact 5 (f := .free "enumerate") rfl)
      · exact He.free_ok X G (c.d.fact 6 (f := .free "int") rfl)
      · exact He.free_ok X G (c.d.fact 7 (f := .free "isinstance") rfl)
      · exact He.free_ok X G (c.d.fact 8 (f := .free "len") rfl)
      · exact He.free_ok X G (c.d.fact 9 (f := .free "list") rfl)
      · exact He.free_ok X G (c.d.fact 10 (f := .free "max") rfl)
      · exact He.free_ok X G (c.d.fact 11 (f := .free "min") rfl)
      · exact He.free_ok X G (c.d.fact 12 (f := .free "range") rfl)
      · exact He.free_ok X G (c.d.fact 13 (f := .free "repr") rfl)
      · exact He.free_ok X G (c.d.fact 14 (f := .free "set") rfl)
      · exact He.free_ok X G (c.d.fact 15 (f := .free "sorted") rfl)
      · exact He.free_ok X G (c.d.fact 16 (f := .free "str") rfl)
      · exact He.free_ok X G (c.d.fact 17 (f := .free "sum") rfl)
      · exact He.free_ok X G (c.d.fact 18 (f := .free "tuple") rfl)
      · exact He.free_ok X G (c.d.fact 19 (f := .free "zip") rfl)
    refine key x ?_
    simp only [bns, List.mem_cons, List.not_mem_nil, or_false] at hx ⊢
    rcases hx with h | h | h | h | h | h | h | h | h | h | h | h | h | h | h | h | h | h | h | h <;> simp [h]
  obtain ⟨fd__law_cells, F__law_cells⟩ := c.d.def_ 0 (d := d__law_cells) rfl
  have m__law_cells := He.glo_ok X G (c.d.fact 20 (f := .glo "_law_cells") rfl)
  obtain ⟨fd__law_pot, F__law_pot⟩ := c.d.def_ 1 (d := d__law_pot) rfl
  have m__law_pot := He.glo_ok X G (c.d.fact 21 (f := .glo "_law_pot") rfl)
  obtain ⟨fd__law_take, F__law_take⟩ := c.d.def_ 2 (d := d__law_take) rfl
  have m__law_take := He.glo_ok X G (c.d.fact 22 (f := .glo "_law_take") rfl)
  obtain ⟨fd__law_some, F__law_some⟩ := c.d.def_ 3 (d := d__law_some) rfl
  have m__law_some := He.glo_ok X G (c.d.fact 23 (f := .glo "_law_some") rfl)
  obtain ⟨fd__law_names, F__law_names⟩ := c.d.def_ 4 (d := d__law_names) rfl
  have m__law_names := He.glo_ok X G (c.d.fact 24 (f := .glo "_law_names") rfl)
  obtain ⟨fd__law_pairs, F__law_pairs⟩ := c.d.def_ 5 (d := d__law_pairs) rfl
  have m__law_pairs := He.glo_ok X G (c.d.fact 25 (f := .glo "_law_pairs") rfl)
  obtain ⟨fd__law_of, F__law_of⟩ := c.d.def_ 6 (d := d__law_of) rfl
  have m__law_of := He.glo_ok X G (c.d.fact 26 (f := .glo "_law_of") rfl)
  obtain ⟨fd__law_made, F__law_made⟩ := c.d.def_ 7 (d := d__law_made) rfl
  have m__law_made := He.glo_ok X G (c.d.fact 27 (f := .glo "_law_made") rfl)
  obtain ⟨fd__law_lore, F__law_lore⟩ := c.d.def_ 8 (d := d__law_lore) rfl
  have m__law_lore := He.glo_ok X G (c.d.fact 28 (f := .glo "_law_lore") rfl)
  obtain ⟨fd_is_name, F_is_name⟩ := c.d.def_ 9 (d := d_is_name) rfl
  have m_is_name := He.glo_ok X G (c.d.fact 29 (f := .glo "is_name") rfl)
  obtain ⟨fd_places_in, F_places_in⟩ := c.d.def_ 10 (d := d_places_in) rfl
  have m_places_in := He.glo_ok X G (c.d.fact 30 (f := .glo "places_in") rfl)
  obtain ⟨fd_is_word, F_is_word⟩ := c.d.def_ 11 (d := d_is_word) rfl
  have m_is_word := He.glo_ok X G (c.d.fact 31 (f := .glo "is_word") rfl)
  obtain ⟨fd_in_sequence, F_in_sequence⟩ := c.d.def_ 12 (d := d_in_sequence) rfl
  have m_in_sequence := He.glo_ok X G (c.d.fact 32 (f := .glo "in_sequence") rfl)
  obtain ⟨fd_is_lot, F_is_lot⟩ := c.d.def_ 13 (d := d_is_lot) rfl
  have m_is_lot := He.glo_ok X G (c.d.fact 33 (f := .glo "is_lot") rfl)
  obtain ⟨fd_watchers_in, F_watchers_in⟩ := c.d.def_ 14 (d := d_watchers_in) rfl
  have m_watchers_in := He.glo_ok X G (c.d.fact 34 (f := .glo "watchers_in") rfl)
  obtain ⟨fd_tie_in, F_tie_in⟩ := c.d.def_ 15 (d := d_tie_in) rfl
  have m_tie_in := He.glo_ok X G (c.d.fact 35 (f := .glo "tie_in") rfl)
  obtain ⟨fd__law_text, F__law_text⟩ := c.d.def_ 16 (d := d__law_text) rfl
  have m__law_text := He.glo_ok X G (c.d.fact 36 (f := .glo "_law_text") rfl)
  obtain ⟨fd__law_net, F__law_net⟩ := c.d.def_ 17 (d := d__law_net) rfl
  have m__law_net := He.glo_ok X G (c.d.fact 37 (f := .glo "_law_net") rfl)
  obtain ⟨fd__law_odd, F__law_odd⟩ := c.d.def_ 18 (d := d__law_odd) rfl
  have m__law_odd := He.glo_ok X G (c.d.fact 38 (f := .glo "_law_odd") rfl)
  obtain ⟨fd_check_place, F_check_place⟩ := c.d.def_ 19 (d := d_check_place) rfl
  have m_check_place := He.glo_ok X G (c.d.fact 39 (f := .glo "check_place") rfl)
  obtain ⟨fd_pair_of, F_pair_of⟩ := c.d.def_ 20 (d := d_pair_of) rfl
  have m_pair_of := He.glo_ok X G (c.d.fact 40 (f := .glo "pair_of") rfl)
  obtain ⟨fd_text_of, F_text_of⟩ := c.d.def_ 21 (d := d_text_of) rfl
  have m_text_of := He.glo_ok X G (c.d.fact 41 (f := .glo "text_of") rfl)
  obtain ⟨fd__law_is_place, F__law_is_place⟩ := c.d.def_ 22 (d := d__law_is_place) rfl
  have m__law_is_place := He.glo_ok X G (c.d.fact 42 (f := .glo "_law_is_place") rfl)
  obtain ⟨fd__law_is_refused, F__law_is_refused⟩ := c.d.def_ 23 (d := d__law_is_refused) rfl
  have m__law_is_refused := He.glo_ok X G (c.d.fact 43 (f := .glo "_law_is_refused") rfl)
  obtain ⟨fd__law_pair_of, F__law_pair_of⟩ := c.d.def_ 24 (d := d__law_pair_of) rfl
  have m__law_pair_of := He.glo_ok X G (c.d.fact 44 (f := .glo "_law_pair_of") rfl)
  obtain ⟨fd__law_with, F__law_with⟩ := c.d.def_ 25 (d := d__law_with) rfl
  have m__law_with := He.glo_ok X G (c.d.fact 45 (f := .glo "_law_with") rfl)
  obtain ⟨fd__law_is_as_told, F__law_is_as_told⟩ := c.d.def_ 26 (d := d__law_is_as_told) rfl
  have m__law_is_as_told := He.glo_ok X G (c.d.fact 46 (f := .glo "_law_is_as_told") rfl)
  obtain ⟨fd__law_is_in_right, F__law_is_in_right⟩ := c.d.def_ 27 (d := d__law_is_in_right) rfl
  have m__law_is_in_right := He.glo_ok X G (c.d.fact 47 (f := .glo "_law_is_in_right") rfl)
  obtain ⟨fd__law_is_out_right, F__law_is_out_right⟩ := c.d.def_ 28 (d := d__law_is_out_right) rfl
  have m__law_is_out_right := He.glo_ok X G (c.d.fact 48 (f := .glo "_law_is_out_right") rfl)
  obtain ⟨fd__law_right, F__law_right⟩ := c.d.def_ 29 (d := d__law_right) rfl
  have m__law_right := He.glo_ok X G (c.d.fact 49 (f := .glo "_law_right") rfl)
  obtain ⟨fd_law, F_law⟩ := c.d.def_ 30 (d := d_law) rfl
  have m_law := He.glo_ok X G (c.d.fact 50 (f := .glo "law") rfl)
  obtain ⟨fd__law_heard, F__law_heard⟩ := c.d.def_ 31 (d := d__law_heard) rfl
  have m__law_heard := He.glo_ok X G (c.d.fact 51 (f := .glo "_law_heard") rfl)
  obtain ⟨fd_Net___init__, F_Net___init__⟩ := c.d.def_ 32 (d := d_Net___init__) rfl
  obtain ⟨fd_Net_with_tie, F_Net_with_tie⟩ := c.d.def_ 33 (d := d_Net_with_tie) rfl
  obtain ⟨fd_Net___len__, F_Net___len__⟩ := c.d.def_ 34 (d := d_Net___len__) rfl
  obtain ⟨fd_Net_without_tie, F_Net_without_tie⟩ := c.d.def_ 35 (d := d_Net_without_tie) rfl
  obtain ⟨fd_Net_places, F_Net_places⟩ := (fun q => funD_at q.1 q.2) (cU.p (("Net", "places"), d_Net_places) (List.mem_of_getElem? (i := 0) rfl))
  obtain ⟨fd_Net_watchers, F_Net_watchers⟩ := (fun q => funD_at q.1 q.2) (cU.p (("Net", "watchers"), d_Net_watchers) (List.mem_of_getElem? (i := 1) rfl))
  obtain ⟨fd_Net_ties, F_Net_ties⟩ := (fun q => funD_at q.1 q.2) (cU.p (("Net", "ties"), d_Net_ties) (List.mem_of_getElem? (i := 2) rfl))
  obtain ⟨fd_Net_text, F_Net_text⟩ := (fun q => funD_at q.1 q.2) (cU.p (("Net", "text"), d_Net_text) (List.mem_of_getElem? (i := 3) rfl))
  have GBLANK : Gc Γ mg "BLANK" (.str " ") := conZ_ok X G (Y.con ("BLANK", .str " ") (List.mem_of_getElem? (i := 0) rfl))
  have GFEED : Gc Γ mg "FEED" (.str "\n") := conZ_ok X G (Y.con ("FEED", .str "\n") (List.mem_of_getElem? (i := 1) rfl))
  have GLETTERS : Gc Γ mg "LETTERS" (.str "abcdefghijklmnopqrstuvwxyz") := conZ_ok X G (Y.con ("LETTERS", .str "abcdefghijklmnopqrstuvwxyz") (List.mem_of_getElem? (i := 2) rfl))
  have GMOST_LETTERS : Gc Γ mg "MOST_LETTERS" (.int 8) := conZ_ok X G (Y.con ("MOST_LETTERS", .int 8) (List.mem_of_getElem? (i := 3) rfl))
  have GPLACES : Gc Γ mg "PLACES" (.str "places") := conZ_ok X G (Y.con ("PLACES", .str "places") (List.mem_of_getElem? (i := 4) rfl))
  have GWATCHERS : Gc Γ mg "WATCHERS" (.str "watchers") := conZ_ok X G (Y.con ("WATCHERS", .str "watchers") (List.mem_of_getElem? (i := 5) rfl))
  have GTIE : Gc Γ mg "TIE" (.str "tie") := conZ_ok X G (Y.con ("TIE", .str "tie") (List.mem_of_getElem? (i := 6) rfl))
  have GPAIR : Gc Γ mg "PAIR" (.int 2) := conZ_ok X G (Y.con ("PAIR", .int 2) (List.mem_of_getElem? (i := 7) rfl))
  have GLEAST_PLACES : Gc Γ mg "LEAST_PLACES" (.int 3) := conZ_ok X G (Y.con ("LEAST_PLACES", .int 3) (List.mem_of_getElem? (i := 8) rfl))
  have GMOST_PLACES : Gc Γ mg "MOST_PLACES" (.int 8) := conZ_ok X G (Y.con ("MOST_PLACES", .int 8) (List.mem_of_getElem? (i := 9) rfl))
  have GMOST_TIES : Gc Γ mg "MOST_TIES" (.int 14) := conZ_ok X G (Y.con ("MOST_TIES", .int 14) (List.mem_of_getElem? (i := 10) rfl))
  have Xc := Y.xcs hcl rfl
  have IBadTie : IsN Γ mg "BadTie" (istOf [false, false, false, false, false, false, true, false, false]) := isn_own Y X G hcl rfl (List.mem_of_getElem? (i := 0) rfl) rfl
  have IFew : IsN Γ mg "Few" (istOf [false, false, false, false, false, true, false, false, false]) := isn_own Y X G hcl rfl (List.mem_of_getElem? (i := 1) rfl) rfl
  have IFull : IsN Γ mg "Full" (istOf [false, false, false, false, false, false, false, true, false]) := isn_own Y X G hcl rfl (List.mem_of_getElem? (i := 2) rfl) rfl
  have ILast : IsN Γ mg "Last" (istOf [false, false, false, false, false, false, false, false, true]) := isn_own Y X G hcl rfl (List.mem_of_getElem? (i := 3) rfl) rfl
  have INoPlace : IsN Γ mg "NoPlace" (istOf [false, false, true, false, false, false, false, false, false]) := isn_own Y X G hcl rfl (List.mem_of_getElem? (i := 4) rfl) rfl
  have INoWatcher : IsN Γ mg "NoWatcher" (istOf [false, false, false, false, true, false, false, false, false]) := isn_own Y X G hcl rfl (List.mem_of_getElem? (i := 5) rfl) rfl
  have IWatches : IsN Γ mg "Watches" (istOf [false, false, false, true, false, false, false, false, false]) := isn_own Y X G hcl rfl (List.mem_of_getElem? (i := 6) rfl) rfl
  have ONet : OwnH Γ.K o_Net := YO o_Net (List.mem_of_getElem? (i := 0) rfl)
  have hCNet : Γ.own 0 = (gC Γ.K "Net", none) := by rw [hOw]; rfl
  have OcNet : OwnC Γ 0 := own_c ONet hCNet
  have Fown_places : Fld Γ 0 "own_places" 0 := fld_of ONet hCNet (List.mem_of_getElem? (i := 1) rfl)
  have Fown_text : Fld Γ 0 "own_text" 1 := fld_of ONet hCNet (List.mem_of_getElem? (i := 0) rfl)
  have Fown_ties : Fld Γ 0 "own_ties" 2 := fld_of ONet hCNet (List.mem_of_getElem? (i := 3) rfl)
  have Fown_watchers : Fld Γ 0 "own_watchers" 3 := fld_of ONet hCNet (List.mem_of_getElem? (i := 2) rfl)
  have mT : mg "TieError" = some (.ref (He.ga Γ.K "TieError")) := err_at Y.err X G (List.mem_of_getElem? (i := 0) rfl)
  have Hd : Hrd Γ mg := ⟨_, _, _, _, _, _, _, _, _, _, _, _, _, _, _, _, _, _, _, _, _, _, _, _, _, _, _, _, _, _, _, F__law_heard, m__law_heard, ⟨rfl, rfl, rfl, by decide +kernel, rfl, by decide +kernel, by decide +kernel⟩, F__law_heard.bindsN fun _ _ _ _ _ _ us hl => match us, hl with | [_], _ => rfl, mT, Y.exms hcl rfl, rfl, rfl, rfl, rfl, rfl, fun _ _ _ => rfl⟩
  have e := hfa.symm.trans m_law
  cases e
  have bnd := FunD.bindsA (ps := ["_law_script"]) F_law fun _ _ _ _ _ _ us hl => match us, hl with | [_], _ => rfl
  refine ⟨fd_law, fun s v => bnd s [v] rfl, fun base _ _ hTB => ?_⟩
  have In := iniOk (P := PySem.Challenge.pw_tiesums_k08_ties_put_in_and_taken_out) (w := w) (base := base) Y.err X G (e := c.i) rfl rfl rfl rfl (by decide +kernel) (fun _ _ _ _ _ _ _ us hl => match us, hl with | [_, _], _ => rfl) (fun _ => rfl) (fun _ => rfl)
  have ErBadNet : Erc Γ PySem.Challenge.pw_tiesums_k08_ties_put_in_and_taken_out w mg base "BadNet" 1 := erc_of Y.err X G In (List.mem_of_getElem? (i := 1) rfl) (by rw [hcl]; rfl)
  have ErBadTie : Erc Γ PySem.Challenge.pw_tiesums_k08_ties_put_in_and_taken_out w mg base "BadTie" 6 := erc_of Y.err X G In (List.mem_of_getElem? (i := 6) rfl) (by rw [hcl]; rfl)
  have ErFull : Erc Γ PySem.Challenge.pw_tiesums_k08_ties_put_in_and_taken_out w mg base "Full" 7 := erc_of Y.err X G In (List.mem_of_getElem? (i := 7) rfl) (by rw [hcl]; rfl)
  have ErLast : Erc Γ PySem.Challenge.pw_tiesums_k08_ties_put_in_and_taken_out w mg base "Last" 8 := erc_of Y.err X G In (List.mem_of_getElem? (i := 8) rfl) (by rw [hcl]; rfl)
  have ErNoPlace : Erc Γ PySem.Challenge.pw_tiesums_k08_ties_put_in_and_taken_out w mg base "NoPlace" 2 := erc_of Y.err X G In (List.mem_of_getElem? (i := 2) rfl) (by rw [hcl]; rfl)
  have C_law_cells : Cal Γ PySem.Challenge.pw_tiesums_k08_ties_put_in_and_taken_out w mg base "_law_cells" 1 2 [] f__law_cells := c__law_cells F__law_cells m__law_cells M
  have C_law_pot : Cal Γ PySem.Challenge.pw_tiesums_k08_ties_put_in_and_taken_out w mg base "_law_pot" 1 2 [] f__law_pot := c__law_pot F__law_pot m__law_pot M
  have C_law_take : Cal Γ PySem.Challenge.pw_tiesums_k08_ties_put_in_and_taken_out w mg base "_law_take" 1 2 [] f__law_take := c__law_take F__law_take m__law_take M
  have C_law_some : Cal Γ PySem.Challenge.pw_tiesums_k08_ties_put_in_and_taken_out w mg base "_law_some" 2 3 [] f__law_some := c__law_some F__law_some m__law_some M C_law_take
  have C_law_names : Cal Γ PySem.Challenge.pw_tiesums_k08_ties_put_in_and_taken_out w mg base "_law_names" 3 2 [] f__law_names := c__law_names F__law_names m__law_names M C_law_some
  have C_law_pairs : Cal Γ PySem.Challenge.pw_tiesums_k08_ties_put_in_and_taken_out w mg base "_law_pairs" 1 1 [] f__law_pairs := c__law_pairs F__law_pairs m__law_pairs M
  have C_law_of : Cal Γ PySem.Challenge.pw_tiesums_k08_ties_put_in_and_taken_out w mg base "_law_of" 2 2 [] f__law_of := c__law_of F__law_of m__law_of M C_law_take
  have C_law_made : Cal Γ PySem.Challenge.pw_tiesums_k08_ties_put_in_and_taken_out w mg base "_law_made" 1 3 [] f__law_made := c__law_made F__law_made m__law_made M
  have B__law_made : CalF Γ PySem.Challenge.pw_tiesums_k08_ties_put_in_and_taken_out w mg base "_law_made" 1 3 f__law_made := cF__law_made F__law_made m__law_made M
  have C_law_lore : Cal Γ PySem.Challenge.pw_tiesums_k08_ties_put_in_and_taken_out w mg base "_law_lore" 4 4 [] f__law_lore := c__law_lore F__law_lore m__law_lore M C_law_names C_law_take C_law_pairs C_law_of C_law_some C_law_made
  have B__law_lore : CalF Γ PySem.Challenge.pw_tiesums_k08_ties_put_in_and_taken_out w mg base "_law_lore" 4 4 f__law_lore := cF__law_lore F__law_lore m__law_lore M C_law_names C_law_take C_law_pairs C_law_of C_law_some C_law_made B__law_made
  have Cis_name : Cal Γ PySem.Challenge.pw_tiesums_k08_ties_put_in_and_taken_out w mg base "is_name" 1 1 [] f_is_name := c_is_name F_is_name m_is_name M GMOST_LETTERS GLETTERS
  have Cplaces_in : Cal Γ PySem.Challenge.pw_tiesums_k08_ties_put_in_and_taken_out w mg base "places_in" 2 1 [] f_places_in := c_places_in F_places_in m_places_in M Cis_name GBLANK GPLACES GLEAST_PLACES GMOST_PLACES
  have Cis_word : Cal Γ PySem.Challenge.pw_tiesums_k08_ties_put_in_and_taken_out w mg base "is_word" 1 2 [] f_is_word := c_is_word F_is_word m_is_word M
  have Cin_sequence : Cal Γ PySem.Challenge.pw_tiesums_k08_ties_put_in_and_taken_out w mg base "in_sequence" 1 2 [] f_in_sequence := c_in_sequence F_in_sequence m_in_sequence M
  have Cis_lot : Cal Γ PySem.Challenge.pw_tiesums_k08_ties_put_in_and_taken_out w mg base "is_lot" 2 2 [] f_is_lot := c_is_lot F_is_lot m_is_lot M Cis_word Cin_sequence
  have Cwatchers_in : Cal Γ PySem.Challenge.pw_tiesums_k08_ties_put_in_and_taken_out w mg base "watchers_in" 3 2 [] f_watchers_in := c_watchers_in F_watchers_in m_watchers_in M Cis_lot GBLANK GWATCHERS GPAIR
  have Ctie_in : Cal Γ PySem.Challenge.pw_tiesums_k08_ties_put_in_and_taken_out w mg base "tie_in" 3 2 [] f_tie_in := c_tie_in F_tie_in m_tie_in M Cis_lot GBLANK GTIE GPAIR
  have MNet : Mak Γ PySem.Challenge.pw_tiesums_k08_ties_put_in_and_taken_out w mg base "Net" 4 1 f_Net___init__ := mak_of ONet hCNet X G (List.mem_of_getElem? (i := 0) rfl) (c_Net___init__ F_Net___init__ M Cplaces_in Cwatchers_in Ctie_in GFEED GPAIR GMOST_TIES Fown_ties Fown_watchers Fown_places Fown_text ErBadNet OcNet) (F_Net___init__.bindsN fun _ _ _ _ _ _ us hl => match us, hl with | [_, _], _ => rfl)
  have C_law_text : Cal Γ PySem.Challenge.pw_tiesums_k08_ties_put_in_and_taken_out w mg base "_law_text" 1 1 [] f__law_text := c__law_text F__law_text m__law_text M
  have C_law_net : Cal Γ PySem.Challenge.pw_tiesums_k08_ties_put_in_and_taken_out w mg base "_law_net" 6 1 [] f__law_net := c__law_net F__law_net m__law_net M C_law_text MNet
  have C_law_odd : Cal Γ PySem.Challenge.pw_tiesums_k08_ties_put_in_and_taken_out w mg base "_law_odd" 3 1 [] f__law_odd := c__law_odd F__law_odd m__law_odd M C_law_of
  have Ccheck_place : Cal Γ PySem.Challenge.pw_tiesums_k08_ties_put_in_and_taken_out w mg base "check_place" 3 2 [] f_check_place := c_check_place F_check_place m_check_place M Cis_word ErNoPlace
  have Cpair_of : Cal Γ PySem.Challenge.pw_tiesums_k08_ties_put_in_and_taken_out w mg base "pair_of" 4 3 [] f_pair_of := c_pair_of F_pair_of m_pair_of M Ccheck_place Cin_sequence
  have Ctext_of : Cal Γ PySem.Challenge.pw_tiesums_k08_ties_put_in_and_taken_out w mg base "text_of" 1 3 [] f_text_of := c_text_of F_text_of m_text_of M GBLANK GPLACES GWATCHERS GFEED GTIE
  have QNet_with_tie : Mth Γ PySem.Challenge.pw_tiesums_k08_ties_put_in_and_taken_out w mg base 0 "with_tie" 6 2 f_Net_with_tie := mth_of ONet hCNet (List.mem_of_getElem? (i := 1) rfl) (c_Net_with_tie F_Net_with_tie M Cpair_of Ctext_of GMOST_TIES Fown_places Fown_ties ErBadTie ErFull Fown_watchers MNet) (F_Net_with_tie.bindsN fun _ _ _ _ _ _ us hl => match us, hl with | [_, _, _], _ => rfl)
  have C_law_is_place : Cal Γ PySem.Challenge.pw_tiesums_k08_ties_put_in_and_taken_out w mg base "_law_is_place" 1 2 [] f__law_is_place := c__law_is_place F__law_is_place m__law_is_place M
  have C_law_is_refused : Cal Γ PySem.Challenge.pw_tiesums_k08_ties_put_in_and_taken_out w mg base "_law_is_refused" 1 3 [] f__law_is_refused := c__law_is_refused F__law_is_refused m__law_is_refused M INoPlace Xc IWatches IFew INoWatcher IBadTie IFull ILast
  have C_law_pair_of : Cal Γ PySem.Challenge.pw_tiesums_k08_ties_put_in_and_taken_out w mg base "_law_pair_of" 1 3 [] f__law_pair_of := c__law_pair_of F__law_pair_of m__law_pair_of M
  have C_law_with : Cal Γ PySem.Challenge.pw_tiesums_k08_ties_put_in_and_taken_out w mg base "_law_with" 2 3 [] f__law_with := c__law_with F__law_with m__law_with M C_law_made
  have PNet_places : Prp Γ PySem.Challenge.pw_tiesums_k08_ties_put_in_and_taken_out w mg base 0 "places" 1 f_Net_places := prp_of ONet hCNet (List.mem_of_getElem? (i := 0) rfl) (c_Net_places F_Net_places M Fown_places) (F_Net_places.bindsN fun _ _ _ _ _ _ us hl => match us, hl with | [_], _ => rfl)
  have PNet_watchers : Prp Γ PySem.Challenge.pw_tiesums_k08_ties_put_in_and_taken_out w mg base 0 "watchers" 1 f_Net_watchers := prp_of ONet hCNet (List.mem_of_getElem? (i := 1) rfl) (c_Net_watchers F_Net_watchers M Fown_watchers) (F_Net_watchers.bindsN fun _ _ _ _ _ _ us hl => match us, hl with | [_], _ => rfl)
  have PNet_ties : Prp Γ PySem.Challenge.pw_tiesums_k08_ties_put_in_and_taken_out w mg base 0 "ties" 1 f_Net_ties := prp_of ONet hCNet (List.mem_of_getElem? (i := 2) rfl) (c_Net_ties F_Net_ties M Fown_ties) (F_Net_ties.bindsN fun _ _ _ _ _ _ us hl => match us, hl with | [_], _ => rfl)
  have PNet_text : Prp Γ PySem.Challenge.pw_tiesums_k08_ties_put_in_and_taken_out w mg base 0 "text" 1 f_Net_text := prp_of ONet hCNet (List.mem_of_getElem? (i := 3) rfl) (c_Net_text F_Net_text M Fown_text) (F_Net_text.bindsN fun _ _ _ _ _ _ us hl => match us, hl with | [_], _ => rfl)
  have SNet___len__ : Spc Γ PySem.Challenge.pw_tiesums_k08_ties_put_in_and_taken_out w mg base 0 "__len__" 1 1 f_Net___len__ := spc_of ONet hCNet (List.mem_of_getElem? (i := 2) rfl) (c_Net___len__ F_Net___len__ M Fown_ties) (F_Net___len__.bindsN fun _ _ _ _ _ _ us hl => match us, hl with | [_], _ => rfl)
  have C_law_is_as_told : Cal Γ PySem.Challenge.pw_tiesums_k08_ties_put_in_and_taken_out w mg base "_law_is_as_told" 3 2 [] f__law_is_as_told := c__law_is_as_told F__law_is_as_told m__law_is_as_told M C_law_text PNet_places PNet_watchers PNet_ties PNet_text SNet___len__
  have TL__law_is_in_right : LamF Γ mg base fd__law_is_in_right "_law_is_in_right" := lamF_of hT Y.tabs hTB F__law_is_in_right (List.mem_of_getElem? (i := 0) rfl)
  have C_law_is_in_right : Cal Γ PySem.Challenge.pw_tiesums_k08_ties_put_in_and_taken_out w mg base "_law_is_in_right" 9 4 [] f__law_is_in_right := c__law_is_in_right F__law_is_in_right m__law_is_in_right M C_law_is_place C_law_is_refused C_law_pair_of C_law_with C_law_is_as_told Hd QNet_with_tie TL__law_is_in_right
  have QNet_without_tie : Mth Γ PySem.Challenge.pw_tiesums_k08_ties_put_in_and_taken_out w mg base 0 "without_tie" 6 2 f_Net_without_tie := mth_of ONet hCNet (List.mem_of_getElem? (i := 3) rfl) (c_Net_without_tie F_Net_without_tie M Cpair_of Ctext_of Fown_places Fown_ties ErBadTie ErLast Fown_watchers MNet) (F_Net_without_tie.bindsN fun _ _ _ _ _ _ us hl => match us, hl with | [_, _, _], _ => rfl)
  have TL__law_is_out_right : LamF Γ mg base fd__law_is_out_right "_law_is_out_right" := lamF_of hT Y.tabs hTB F__law_is_out_right (List.mem_of_getElem? (i := 1) rfl)
  have C_law_is_out_right : Cal Γ PySem.Challenge.pw_tiesums_k08_ties_put_in_and_taken_out w mg base "_law_is_out_right" 9 4 [] f__law_is_out_right := c__law_is_out_right F__law_is_out_right m__law_is_out_right M C_law_is_place C_law_is_refused C_law_pair_of C_law_is_as_told C_law_with Hd QNet_without_tie TL__law_is_out_right
  have C_law_right : Cal Γ PySem.Challenge.pw_tiesums_k08_ties_put_in_and_taken_out w mg base "_law_right" 10 1 [] f__law_right := c__law_right F__law_right m__law_right M C_law_lore C_law_take C_law_pairs C_law_some C_law_net C_law_odd C_law_is_in_right C_law_is_out_right C_law_is_as_told B__law_lore
  exact okLaw F_law M C_law_cells C_law_pot C_law_right
abbrev RR : PySem.W.OpenRow := PySem.W.OpenLaw.row PySem.Challenge.rw_tiesums_k08_ties_put_in_and_taken_out
abbrev hkD : PySem.W.Hook := hookU 5 faD fnD pnD iniD tfD exD
def obD (s : PySem.W.SharedT) : AlU := obsU 5 faD fnD pnD tfD exD (HandSHeadRun.getT s)
theorem obD_eq (s : PySem.W.SharedT) : obD s = hkD.obs s.abs := obsU_eq (HandSHeadRun.getT_eq s)
def looseD : List Str := (["_wall", "is_tuple", "is_word", "is_name", "places_in", "in_sequence", "is_lot", "watchers_in", "tie_in", "text_of", "check_place", "pair_of", "tied_to", "_law_pot", "_law_take", "_law_heard"] : List Str) ++ (["_law_is_place", "_law_is_refused", "_law_made", "_law_with", "_law_text", "_law_is_as_told", "_law_some", "_law_names", "_law_pairs", "_law_of", "_law_lore", "_law_net", "_law_odd", "_law_cells", "_law_pair_of", "_law_is_in_right"] : List Str) ++ (["_law_is_out_right", "_law_right", "TieError", "BadNet", "NoPlace", "Watches", "NoWatcher", "Few", "BadTie", "Full", "Last", "Net", "BLANK", "FEED", "LETTERS", "MOST_LETTERS"] : List Str) ++ (["PLACES", "WATCHERS", "TIE", "PAIR", "LEAST_PLACES", "MOST_PLACES", "MOST_TIES"] : List Str)
theorem runD (w : World) : HandSHeadRun.RunEq RR (PySem.W.view RR.prog [59]) hkD obD 20000 looseD w := by
  intro os
  kernel_rfl
end Z
set_option Elab.async false
set_option linter.all false
set_option maxRecDepth 100000
set_option maxHeartbeats 4000000
/-! N0: nets by texts, plain -/
namespace Z
open PySem PySem.Spec PyProof.Rows L2 RZ TL
abbrev LET : Str := "abcdefghijklmnopqrstuvwxyz"
def okName (w : Str) : Bool := decide (1 ≤ w.length) && (decide (w.length ≤ 8) && w.cps.toList.all fun c => decide (c ∈ LET.cps.toList))
abbrev tx (l : List Str) : D := .tup (l.map .str)
abbrev lx (l : List Str) : D := .lst (l.map .str)
def placesP (line : Str) : Option (List Str) := match Txt.split line " " with
  | [] => none
  | w :: ns => if w = "places" ∧ (3 ≤ ns.length ∧ ns.length ≤ 8) ∧ ns.all okName = true ∧ ns.Nodup then some ns else none
def inSeq (ps some : List Str) : List Str := ps.filter fun p => decide (p ∈ some)
def isLot (ps v : List Str) : Bool := v.all (fun x => decide (x ∈ ps)) && decide (inSeq ps v = v)
def watchP (ps : List Str) (line : Str) : Option (List Str) := match Txt.split line " " with
  | [] => none
  | w :: ns => if w = "watchers" ∧ 2 ≤ ns.length ∧ isLot ps ns = true then some ns else none
def tieP (ps : List Str) (line : Str) : Option (List Str) := match Txt.split line " " with
  | [] => none
  | w :: ns => if w = "tie" ∧ ns.length = 2 ∧ isLot ps ns = true then some ns else none
def tiesP (ps : List Str) : List Str → Nat → List (List Str) → Except Nat (List (List Str))
  | [], _, acc => .ok acc
  | l :: ls, n, acc => match tieP ps l with
    | none => .error (n + 3)
    | some p => if p ∈ acc ∨ acc.length = 14 then .error (n + 3) else tiesP ps ls (n + 1) (acc ++ [p])
structure Net3 where
  ps : List Str
  ws : List Str
  ts : List (List Str)
def netP (t : Str) : Except Nat Net3 := match Txt.split t "\n" with
  | [] => .error 1
  | l0 :: rest => match placesP l0 with
    | none => .error 1
    | some ps => match rest with
      | [] => .error 2
      | l1 :: ls => match watchP ps l1 with
        | none => .error 2
        | some ws => match tiesP ps ls 0 [] with
          | .error n => .error n
          | .ok [] => .error 3
          | .ok (t :: ts) => .ok ⟨ps, ws, t :: ts⟩
abbrev netD (t : Str) (n : Net3) : D := .ins 0 [tx n.ps, .str t, .tup (n.ts.map tx), tx n.ws]
/-! ### splits -/
abbrev txOk (b : Nat) (x : Str) : Prop := asc x = true ∧ x.length ≤ b
theorem spl_mem {S : List Nat} : ∀ (l : List Nat) (k : Nat) (acc : List Nat) (p : List Nat) (c : Nat), p ∈ spl S k acc l → c ∈ p → c ∈ acc ∨ c ∈ l
  | [], k, acc, p, c, hp, hc => by
    rw [spl_nil] at hp
    rw [List.mem_singleton.mp hp] at hc
    exact .inl hc
  | x :: r, 0, acc, p, c, hp, hc => by
    cases e : pre S (x :: r) with
    | true =>
      rw [spl_hit e] at hp
      rcases List.mem_cons.mp hp with rfl | hp
      · exact .inl hc
      · rcases spl_mem r _ [] p c hp hc with h | h
        · cases h
        · exact .inr (List.mem_cons_of_mem _ h)
    | false =>
      rw [spl_miss e] at hp
      rcases spl_mem r 0 _ p c hp hc with h | h
      · rcases List.mem_append.mp h with h | h
        · exact .inl h
        · rw [List.mem_singleton.mp h]; exact .inr (List.mem_cons_self ..)
      · exact .inr (List.mem_cons_of_mem _ h)
  | x :: r, k + 1, acc, p, c, hp, hc => by
    rcases spl_mem r k acc p c hp hc with h | h
    · exact .inl h
    · exact .inr (List.mem_cons_of_mem _ h)
theorem spl_len {S : List Nat} : ∀ (l : List Nat) (k : Nat) (acc : List Nat), (spl S k acc l).length ≤ l.length + 1 ∧ (spl S k acc l) ≠ [] ∧ ∀ p ∈ spl S k acc l, p.length ≤ acc.length + l.length
  | [], k, acc => by
    rw [spl_nil]
    exact ⟨by simp, by simp, fun p hp => by rw [List.mem_singleton.mp hp]; simp⟩
  | x :: r, 0, acc => by
    cases e : pre S (x :: r) with
    | true =>
      rw [spl_hit e]
      obtain ⟨h1, h2, h3⟩ := spl_len (S := S) r (S.length - 1) []
      refine ⟨by simp only [List.length_cons]; omega, by simp, fun p hp => ?_⟩
      rcases List.mem_cons.mp hp with rfl | hp
      · simp
      · have := h3 p hp
        simp only [List.length_nil, List.length_cons] at this ⊢
        omega
    | false =>
      rw [spl_miss e]
      obtain ⟨h1, h2, h3⟩ := spl_len (S := S) r 0 (acc ++ [x])
      refine ⟨by simp only [List.length_cons]; omega, h2, fun p hp => ?_⟩
      have := h3 p hp
      simp only [List.length_append, List.length_cons, List.length_nil] at this ⊢
      omega
  | x :: r, k + 1, acc => by
    obtain ⟨h1, h2, h3⟩ := spl_len (S := S) r k acc
    refine ⟨by show (spl S k acc r).length ≤ _; simp only [List.length_cons]; omega, h2, fun p hp => ?_⟩
    have := h3 p hp
    simp only [List.length_cons]
    omega
theorem split_ok {b : Nat} {x y : Str} (hy : tl y ≠ []) (hk : y.cps.all (· < 256) = true) (hx : txOk b x) : Txt.split x y ≠ [] ∧ (Txt.split x y).length ≤ b + 1 ∧ ∀ p ∈ Txt.split x y, txOk b p := by
  have e := split_spl x y hy (kind_ok hk)
  obtain ⟨h1, h2, h3⟩ := spl_len (S := tl y) (tl x) 0 []
  have hl : x.length = (tl x).length := len_tl x
  have h4 : (Txt.split x y).length = (spl (tl y) 0 [] (tl x)).length := by rw [← e, List.length_map]
  refine ⟨fun q => h2 (by rw [← e, q]; rfl), by have := hx.2; omega, fun p hp => ?_⟩
  have hp2 : tl p ∈ spl (tl y) 0 [] (tl x) := by rw [← e]; exact List.mem_map.mpr ⟨p, hp, rfl⟩
  refine ⟨List.all_eq_true.mpr fun c hc => ?_, ?_⟩
  · rcases spl_mem _ _ _ _ c hp2 hc with h | h
    · cases h
    · exact List.all_eq_true.mp hx.1 c h
  · have := h3 _ hp2
    have e2 : p.length = (tl p).length := len_tl p
    have := hx.2
    simp only [List.length_nil, Nat.zero_add] at *
    omega
theorem sep1 : tl (" " : Str) ≠ [] := by decide
theorem sep2 : tl ("\n" : Str) ≠ [] := by decide
theorem splitB {b : Nat} {x : Str} (hx : txOk b x) : Txt.split x " " ≠ [] ∧ (Txt.split x " ").length ≤ b + 1 ∧ ∀ p ∈ Txt.split x " ", txOk b p := split_ok sep1 (by decide +kernel) hx
theorem splitF {b : Nat} {x : Str} (hx : txOk b x) : Txt.split x "\n" ≠ [] ∧ (Txt.split x "\n").length ≤ b + 1 ∧ ∀ p ∈ Txt.split x "\n", txOk b p := split_ok sep2 (by decide +kernel) hx
theorem smL {n : Nat} (h : n ≤ 100000) : small n = true := decide_eq_true (by omega)
theorem splitDB {x : Str} (h : x.length ≤ 100000) : splitD x (.str " ") = some (lx (Txt.split x " ")) := by
  show (if (!((" " : Str).length == 0) && small x.length) = true then _ else _) = _
  rw [if_pos (by rw [smL h]; rfl)]
theorem splitDF {x : Str} (h : x.length ≤ 100000) : splitD x (.str "\n") = some (lx (Txt.split x "\n")) := by
  show (if (!(("\n" : Str).length == 0) && small x.length) = true then _ else _) = _
  rw [if_pos (by rw [smL h]; rfl)]
theorem txts_map : ∀ l : List Str, txtsD (l.map .str) = some l
  | [] => rfl
  | x :: l => by simp only [List.map_cons, txtsD, txts_map l, Option.map_some]
def lenJ (a : Nat) (l : List Str) : Nat := (l.map (·.length)).sum + l.length * a
theorem joinDL {a : Str} {l : List Str} (h : lenJ a.length l ≤ 100000) : joinD a (lx l) = some (.str (Txt.join a l)) := by
  show ((txtsD (l.map .str)).bind _) = _
  rw [txts_map]
  show (if decide ((l.map (·.length)).sum + l.length * a.length ≤ 16777216) = true then _ else _) = _
  rw [if_pos (decide_eq_true (by unfold lenJ at h; omega))]
/-! ### plain data of texts -/
theorem pl_map : ∀ {l : List Str}, (∀ x ∈ l, asc x = true) → pl1s (l.map .str) = true
  | [], _ => rfl
  | x :: l, h => by
    simp only [List.map_cons, pl1s, pl1, Bool.and_eq_true]
    exact ⟨h x (List.mem_cons_self ..), pl_map fun y hy => h y (List.mem_cons_of_mem _ hy)⟩
theorem dp_map : ∀ (l : List Str), dps (l.map .str) = 0
  | [] => rfl
  | x :: l => by simp only [List.map_cons, dps, dp, dp_map l]; rfl
theorem ok_tx {l : List Str} (h : ∀ x ∈ l, asc x = true) : okD (tx l) = true := pl1_ok (by simp only [pl1]; exact pl_map h) (by simp only [dp, dp_map]; omega)
theorem ok_lx {l : List Str} (h : ∀ x ∈ l, asc x = true) : okD (lx l) = true := pl1_ok (by simp only [pl1]; exact pl_map h) (by simp only [dp, dp_map]; omega)
theorem ok_str {x : Str} (h : asc x = true) : okD (.str x) = true := pl1_ok (by simp only [pl1]; exact h) (by simp only [dp]; omega)
theorem eqbL_str : ∀ (a b : List Str), eqbL (a.map .str) (b.map .str) = decide (a = b)
  | [], [] => by simp [eqbL]
  | [], y :: b => by simp [eqbL]
  | x :: a, [] => by simp [eqbL]
  | x :: a, y :: b => by
    simp only [List.map_cons, eqbL, eqb, eqbL_str a b]
    rw [Bool.eq_iff_iff]
    simp
theorem eq_tx {a b : List Str} (ha : ∀ x ∈ a, asc x = true) (hb : ∀ x ∈ b, asc x = true) : eqX (tx a) (tx b) = some (.bl (decide (a = b))) := by
  unfold eqX lenEq
  simp only [List.length_map]
  by_cases h : a.length = 0 ∨ b.length = 0
  · rw [if_pos h]
    show some (D.bl (decide (a.length = b.length))) = _
    congr 2
    rw [decide_eq_decide]
    constructor
    · intro e
      have h1 : a = [] := List.length_eq_zero_iff.mp (by omega)
      have h2 : b = [] := List.length_eq_zero_iff.mp (by omega)
      rw [h1, h2]
    · intro e; rw [e]
  · rw [if_neg h]
    show eqD (tx a) (tx b) = _
    rw [(okI (ok_tx ha) (ok_tx hb) (fun x => nofun)).1]
    simp only [eqb, eqbL_str]
theorem any_str {x : Str} : ∀ (l : List Str), ((l.map D.str).any fun y => eqb y (.str x)) = decide (x ∈ l)
  | [] => by simp
  | y :: l => by
    simp only [List.map_cons, List.any_cons, any_str l, eqb]
    rw [Bool.eq_iff_iff]
    simp only [Bool.or_eq_true, beq_iff_eq, decide_eq_true_eq, List.mem_cons]
    exact ⟨fun h => h.imp Eq.symm id, fun h => h.imp Eq.symm id⟩
theorem in_tx {x : Str} {l : List Str} (hx : asc x = true) (hl : ∀ y ∈ l, asc y = true) : inX (.str x) (tx l) = some (.bl (decide (x ∈ l))) := by
  show (if (okD (.str x) && okD (.lst (l.map .str))) = true then some _ else none).map _ = _
  rw [if_pos (by rw [ok_str hx, ok_lx hl]; rfl), any_str]
  rfl
theorem in_lx {x : Str} {l : List Str} (hx : asc x = true) (hl : ∀ y ∈ l, asc y = true) : inX (.str x) (lx l) = some (.bl (decide (x ∈ l))) := in_tx hx hl
theorem any_tx {p : List Str} : ∀ (l : List (List Str)), ((l.map tx).any fun y => eqb y (tx p)) = decide (p ∈ l)
  | [] => by simp
  | y :: l => by
    simp only [List.map_cons, List.any_cons, any_tx l, eqb, eqbL_str]
    rw [Bool.eq_iff_iff]
    simp only [Bool.or_eq_true, decide_eq_true_eq, List.mem_cons]
    exact ⟨fun h => h.imp Eq.symm id, fun h => h.imp Eq.symm id⟩
theorem pl_mapT : ∀ {l : List (List Str)}, (∀ p ∈ l, ∀ x ∈ p, asc x = true) → pl1s (l.map tx) = true
  | [], _ => rfl
  | x :: l, h => by
    simp only [List.map_cons, pl1s, pl1, Bool.and_eq_true]
    exact ⟨pl_map (h x (List.mem_cons_self ..)), pl_mapT fun y hy => h y (List.mem_cons_of_mem _ hy)⟩
theorem dp_mapT : ∀ (l : List (List Str)), dps (l.map tx) ≤ 1
  | [] => by simp [dps]
  | x :: l => by
    have := dp_mapT l
    simp only [List.map_cons, dps, dp, dp_map]
    omega
theorem in_ties {p : List Str} {l : List (List Str)} (hp : ∀ x ∈ p, asc x = true) (hl : ∀ p ∈ l, ∀ x ∈ p, asc x = true) : inX (tx p) (.lst (l.map tx)) = some (.bl (decide (p ∈ l))) := by
  show (if (okD (tx p) && okD (.lst (l.map tx))) = true then some _ else none).map _ = _
  rw [if_pos (by rw [ok_tx hp, pl1_ok (d := .lst (l.map tx)) (by simp only [pl1]; exact pl_mapT hl) (by have := dp_mapT l; simp only [dp]; omega)]; rfl), any_tx]
  rfl
theorem dis_acc : ∀ (xs acc : List Str), acc.Nodup → ((xs.foldl addN acc).length = acc.length + xs.length ↔ (acc ++ xs).Nodup)
  | [], acc, h => by simp [h]
  | x :: xs, acc, h => by
    simp only [List.foldl_cons, List.length_cons]
    by_cases hx : x ∈ acc
    · have e : addN acc x = acc := if_pos hx
      rw [e]
      have := dis_le xs acc
      constructor
      · intro q; omega
      · intro q
        rw [List.nodup_append] at q
        exact absurd rfl (q.2.2 x hx x (List.mem_cons_self ..))
    · have e : addN acc x = acc ++ [x] := if_neg hx
      rw [e]
      have hn : (acc ++ [x]).Nodup := by
        rw [List.nodup_append]
        exact ⟨h, by simp, fun a ha b hb => by rw [List.mem_singleton.mp hb]; exact fun q => hx (q ▸ ha)⟩
      have ih := dis_acc xs (acc ++ [x]) hn
      rw [List.append_assoc] at ih
      rw [← show (acc ++ [x]).length + xs.length = acc.length + (xs.length + 1) by simp; omega]
      exact ih
theorem dis_nodup (xs : List Str) : decide (((dis xs).length : Int) = (xs.length : Int)) = decide xs.Nodup := by
  have := dis_acc xs [] List.nodup_nil
  rw [List.nil_append, List.length_nil, Nat.zero_add] at this
  rw [decide_eq_decide, ← this]
  unfold dis
  omega
theorem lenSet_lx {l : List Str} (h : l.length < 1000) : lenSetD (lx l) = some (.int (dis l).length) := by
  show ((txtsD (l.map .str)).bind _) = _
  rw [txts_map]
  show (if l.length < 1000 then _ else _) = _
  rw [if_pos h]
/-! ### numbered -/
def enumF : Nat → List D → List D
  | _, [] => []
  | n, x :: xs => .tup [.int (n : Nat), x] :: enumF (n + 1) xs
theorem enumF_get : ∀ (xs : List D) (n i : Nat), (enumF n xs)[i]? = xs[i]?.map fun x => D.tup [.int ((n + i : Nat) : Int), x]
  | [], n, i => by simp [enumF]
  | x :: xs, n, 0 => by simp [enumF]
  | x :: xs, n, i + 1 => by
    simp only [enumF, List.getElem?_cons_succ, enumF_get xs (n + 1) i]
    rw [show n + 1 + i = n + (i + 1) by omega]
theorem enumD_F (xs : List D) : enumD xs = enumF 0 xs := by
  apply List.ext_getElem?
  intro i
  rw [enumF_get]
  cases h : xs[i]? with
  | none =>
    have := List.getElem?_eq_none_iff.mp h
    unfold enumD
    rw [List.getElem?_eq_none_iff.mpr (by rw [List.length_zipWith, List.length_range]; omega)]
    rfl
  | some x =>
    rw [enum_get h, Nat.zero_add]
    rfl
/-! ### comprehensions over what is known -/
theorem wcompM {α : Type} {f : Den} {t : Tg} {c : M → R Bool} {own : List Nat} {P : α → Bool} {F inj : α → D} {m0 : M} {QL : List D → M → Prop} {E' : Nat → D → M → Prop} (xs : List α)
    (hs : ∀ x ∈ xs, ∃ m1, t (inj x) m0 = some m1 ∧ RE (c m1) (fun b m2 => b = P x ∧ (b = true → RE (f m2) (fun y m3 => y = F x ∧ hide own m3 = m0) fun _ _ _ => False) ∧ (b = false → hide own m2 = m0)) fun _ _ _ => False)
    (q : QL ((xs.filter P).map F) m0) : RE (compL t c f own (xs.map inj) [] m0) QL E' := by
  refine wcompL (I := fun rest acc m => m = m0 ∧ ∃ ys, rest = ys.map inj ∧ (∀ y ∈ ys, y ∈ xs) ∧ acc ++ (ys.filter P).map F = (xs.filter P).map F) (fun d rest acc m h => ?_) (fun acc m h => ?_) (xs.map inj) [] m0 ⟨rfl, xs, rfl, fun _ h => h, rfl⟩
  · obtain ⟨e, ys, h1, h2, h3⟩ := h
    subst e
    cases ys with
    | nil => cases h1
    | cons y ys =>
      simp only [List.map_cons, List.cons.injEq] at h1
      obtain ⟨rfl, rfl⟩ := h1
      obtain ⟨m1, e1, h⟩ := hs y (h2 y (List.mem_cons_self ..))
      refine ⟨m1, e1, h.mono (fun b m2 ⟨eb, k1, k2⟩ => ?_) fun _ _ _ h => h⟩
      subst eb
      refine ⟨fun hb => (k1 hb).mono (fun x m3 ⟨ex, em⟩ => ?_) fun _ _ _ h => h, fun hb => ⟨k2 hb, ys, rfl, fun z hz => h2 z (List.mem_cons_of_mem _ hz), ?_⟩⟩
      · subst ex
        refine ⟨em, ys, rfl, fun z hz => h2 z (List.mem_cons_of_mem _ hz), ?_⟩
        rw [List.filter_cons_of_pos hb, List.map_cons] at h3
        rw [List.append_assoc]
        exact h3
      · rw [List.filter_cons_of_neg (by rw [hb]; decide)] at h3
        exact h3
  · obtain ⟨e, ys, h1, h2, h3⟩ := h
    subst e
    have : ys = [] := List.map_eq_nil_iff.mp h1.symm
    subst this
    simp only [List.filter_nil, List.map_nil, List.append_nil] at h3
    rw [h3]
    exact q
theorem filter_yes {α : Type} (xs : List α) : xs.filter (fun _ => true) = xs := List.filter_eq_self.mpr fun _ _ => rfl
end Z

set_option Elab.async false
set_option linter.all false
set_option maxRecDepth 100000
set_option maxHeartbeats 4000000
/-! N1: the program's reading of nets -/
namespace Z
open PySem PySem.Spec PyProof.Rows L2 RZ TL
local macro_rules
  | `(tactic| done) => `(tactic| (first | ((with_reducible refine wseq ?_); try dsimp only [List.set_cons_zero, List.set_cons_succ, setAll, padE, hide, hideE, backE, List.getD, List.getElem?_cons_zero, List.getElem?_cons_succ, Option.getD_some, List.map_cons, List.map_nil, List.length_cons, List.length_nil, List.replicate, List.cons_append, List.nil_append, List.append_nil, Nat.reduceAdd, Nat.reduceSub]) | ((with_reducible refine wseqN ?_); try dsimp only [List.set_cons_zero, List.set_cons_succ, setAll, padE, hide, hideE, backE, List.getD, List.getElem?_cons_zero, List.getElem?_cons_succ, Option.getD_some, List.map_cons, List.map_nil, List.length_cons, List.length_nil, List.replicate, List.cons_append, List.nil_append, List.append_nil, Nat.reduceAdd, Nat.reduceSub]) | with_reducible refine wvar (by with_unfolding_all exact rfl) ?_ | with_reducible refine wnext ?_ | with_reducible refine wpass ?_ | with_reducible refine wret ?_ | with_reducible refine wif ?_ | with_reducible refine wexpr ?_ | with_reducible refine wset ?_ | with_reducible refine wsetB ?_ | with_reducible refine wpar ?_ | with_reducible refine wsnil ?_ | with_reducible refine wsval ?_ | with_reducible refine wsnew ?_ | with_reducible refine wsetItem ?_ | with_reducible refine wraise ?_ | with_reducible refine wfor ?_ | with_reducible refine wk ?_ | with_reducible refine wop ?_ | with_reducible refine wtand ?_ | with_reducible refine wtor ?_ | with_reducible refine wtnot ?_ | with_reducible refine wtoB ?_ | with_reducible refine wand ?_ | with_reducible refine wor ?_ | with_reducible refine wnot ?_ | with_reducible refine wite ?_ | with_reducible refine wchain ?_ | with_reducible refine wnil ?_ | with_reducible refine wcons ?_ | with_reducible refine wtup ?_ | with_reducible refine wlst ?_ | with_reducible refine wfrz ?_ | with_reducible refine wcel ?_ | with_reducible refine wcb ?_ | with_reducible refine wcall0 ?_ | with_reducible refine wcall ?_ | with_reducible refine widx ?_ | with_reducible refine wneg ?_ | with_reducible refine wisi ?_ | with_reducible refine wisc ?_ | with_reducible refine wval ?_ | with_reducible refine wmk ?_ | with_reducible refine wrev ?_ | with_reducible refine wup ?_ | with_reducible refine wenum ?_ | with_reducible refine wonone ?_ | with_reducible refine wosome ?_ | with_reducible refine wslice ?_ | with_reducible refine wlistF ?_ | with_reducible refine wlistRg ?_ | with_reducible refine wrange ?_ | with_reducible refine wseqI ?_ | with_reducible refine wzip ?_ | with_reducible refine wdct ?_ | with_reducible refine wdctB ?_ | with_reducible refine wdct0 ?_ | with_reducible refine wsetD ?_ | with_reducible refine wsnewD ?_ | with_reducible refine wcallF ?_ | with_reducible refine wputK ?_ | with_reducible refine windex ?_ | with_reducible refine wstarI ?_ | with_reducible refine wheard ?_ | with_reducible refine wyes ?_ | with_reducible refine wcomp ?_ | with_reducible refine wsplit ?_ | with_reducible refine wjoin ?_ | with_reducible refine wlenSet ?_ | with_reducible refine wfldO ?_ | with_reducible refine wprop ?_ | with_reducible refine wmeth ?_ | with_reducible refine winB ?_ | with_reducible refine wninB ?_ | with_reducible refine wlenO ?_ | with_reducible refine winO ?_ | with_reducible refine weqO ?_ | with_reducible refine wiso ?_ | with_reducible refine wstar ?_ | with_reducible refine wfld1 ?_ | with_reducible refine wasg ?_ | with_reducible refine wlenB (by with_unfolding_all exact rfl) ?_ | with_reducible refine wlenV (by with_unfolding_all exact rfl) ?_ | with_reducible refine wvarB (by with_unfolding_all exact rfl) ?_ | with_reducible refine wvarX (by with_unfolding_all exact rfl) ?_ | with_reducible refine wvarXB (by with_unfolding_all exact rfl) (by with_unfolding_all exact rfl) ?_ | with_reducible refine wupd (by with_unfolding_all exact rfl) ?_ | with_reducible refine wbld (by with_unfolding_all exact rfl) ?_ | with_reducible refine wblk (by with_unfolding_all exact rfl) ?_ | with_reducible refine wmade (by with_unfolding_all exact rfl) ?_ | with_reducible refine exB ?_ | with_reducible refine exI ?_ | with_reducible refine exS ?_ | with_reducible refine exO ?_ | with_reducible refine exG (by with_unfolding_all exact rfl) ?_ | ((with_reducible apply exM); exact rfl) | (with_reducible refine ⟨fun _ => ?_, b_tf⟩) | (with_reducible refine ⟨b_ft, fun _ => ?_⟩) | (with_reducible refine ⟨b_nt, fun _ => ?_⟩) | (with_reducible refine ⟨fun _ => ?_, b_nf⟩) | ((with_reducible apply exC); (simp only [List.map_cons, addD, subD, cmpI, isND, isNotND, lenD, absD, intD, tupleD, maxD, minD, listS, revD, enumS, seqD, zipS, zipD, ixS, idxD, at0, at1, at2, eqI, neI, eqBl, neBl, beq_self_eq_true, Bool.not_true, Bool.not_false, eqS, neS, eqL0, neL0, eqT0, neT0, List.isEmpty_cons, List.isEmpty_nil, iscD, valD, istOf, List.getD_cons_zero, List.getD_cons_succ, List.length_cons, List.length_nil, appendK, sliceD, Option.map_some, Option.bind_some, isi_int_non, isi_int_bl, isi_int_int, isi_int_str, isi_int_tup, isi_int_lst, isi_int_dct, isi_bool_non, isi_bool_bl, isi_bool_int, isi_bool_str, isi_bool_tup, isi_bool_lst, isi_bool_dct, isi_tuple_non, isi_tuple_bl, isi_tuple_int, isi_tuple_str, isi_tuple_tup, isi_tuple_lst, isi_tuple_dct, isi_str_non, isi_str_bl, isi_str_int, isi_str_str, isi_str_tup, isi_str_lst, isi_str_dct, isi_list_non, isi_list_bl, isi_list_int, isi_list_str, isi_list_tup, isi_list_lst, isi_list_dct, isi_dict_non, isi_dict_bl, isi_dict_int, isi_dict_str, isi_dict_tup, isi_dict_lst, isi_dict_dct]; exact rfl)) | (refine ⟨(by rfl : small _ = true), ?_⟩) | (refine ⟨(by rfl : rhsO _ _ = true), ?_⟩) | (refine ⟨(by rfl : List.length _ = List.length _), ?_⟩)))

theorem in_letter (c : Nat) : inX (.str ⟨#[c]⟩) (.str LET) = some (.bl (decide (c ∈ LET.cps.toList))) := by
  show some (D.bl (!(Builtin.Str.occurrences LET ⟨#[c]⟩ 0 LET.length 1).isEmpty)) = _
  rw [StrLaws.found_one]
theorem lenStr {w : Str} (h : w.length ≤ 100000) : lenD [.str w] = some (.int w.length) := by show (if _ then _ else _) = _; rw [if_pos (smL h)]
theorem e_is_name {w : Str} (S : Sto) (h : w.length ≤ 100000) : f_is_name [.str w] S = .ok (.bl (okName w)) S := by
  refine Res.is (wbody rfl ?_)
  unfold g_is_name
  repeat' (first | done | fail)
  refine ⟨_, lenStr h, ?_⟩
  repeat' (first | done | fail)
  refine ⟨fun h1 => ?_, fun h1 => ?_⟩
  · repeat' (first | done | fail)
    refine ⟨fun h2 => ?_, fun h2 => ?_⟩
    · repeat' (first | done | fail)
      refine ⟨smL (by simpa [Str.length] using h), rfl, ?_⟩
      refine wcompM (inj := fun c => .str ⟨#[c]⟩) (P := fun _ => true) (F := fun c => .bl (decide (c ∈ LET.cps.toList))) w.cps.toList (fun c hc => ⟨_, rfl, ?_⟩) ?_
      · repeat' (first | done | fail)
        refine ⟨rfl, fun _ => ?_, fun h => nomatch h⟩
        repeat' (first | done | fail)
        exact ⟨_, in_letter c, rfl, rfl⟩
      · refine ⟨_, ?_, rfl, rfl⟩
        rw [filter_yes, allD_bl]
        have e1 : decide (1 ≤ w.length) = true := by simp at h1 ⊢; omega
        have e2 : decide (w.length ≤ 8) = true := by simp at h2 ⊢; omega
        unfold okName
        rw [e1, e2]
        rfl
    · repeat' (first | done | fail)
      refine ⟨?_, rfl⟩
      have e2 : decide (w.length ≤ 8) = false := by simp at h2 ⊢; omega
      unfold okName
      rw [e2]
      simp
  · repeat' (first | done | fail)
    refine ⟨?_, rfl⟩
    have e2 : decide (1 ≤ w.length) = false := by simp at h1 ⊢; omega
    unfold okName
    rw [e2]
    rfl
theorem lenTx (l : List Str) : lenD [tx l] = some (.int l.length) := by simp [lenD]
theorem lenLx (l : List Str) : lenD [lx l] = some (.int l.length) := by simp [lenD]
theorem e_is_word {x : Str} {l : List Str} (S : Sto) (hx : asc x = true) (hl : ∀ y ∈ l, asc y = true) : f_is_word [.str x, tx l] S = .ok (.bl (decide (x ∈ l))) S := by
  refine Res.is (wbody rfl ?_)
  unfold g_is_word
  repeat' (first | done | fail)
  exact ⟨_, in_tx hx hl, rfl, rfl⟩
theorem e_in_sequence {ps l : List Str} (S : Sto) (hp : ∀ y ∈ ps, asc y = true) (hn : ps.length ≤ 1000) (hl : ∀ y ∈ l, asc y = true) : f_in_sequence [tx ps, tx l] S = .ok (tx (inSeq ps l)) S := by
  refine Res.is (wbody rfl ?_)
  unfold g_in_sequence
  repeat' (first | done | fail)
  refine ⟨smL (by simp; omega), rfl, ?_⟩
  refine wcompM (inj := D.str) (P := fun p => decide (p ∈ l)) (F := D.str) ps (fun x hx => ⟨_, rfl, ?_⟩) ?_
  · repeat' (first | done | fail)
    refine ⟨_, in_tx (hp x hx) hl, ?_⟩
    repeat' (first | done | fail)
    refine ⟨rfl, fun _ => ?_, fun _ => rfl⟩
    repeat' (first | done | fail)
    exact ⟨rfl, rfl⟩
  · exact ⟨_, rfl, rfl, rfl⟩
theorem e_in_sequenceL {ps l : List Str} (S : Sto) (hp : ∀ y ∈ ps, asc y = true) (hn : ps.length ≤ 1000) (hl : ∀ y ∈ l, asc y = true) : f_in_sequence [tx ps, lx l] S = .ok (tx (inSeq ps l)) S := by
  refine Res.is (wbody rfl ?_)
  unfold g_in_sequence
  repeat' (first | done | fail)
  refine ⟨smL (by simp; omega), rfl, ?_⟩
  refine wcompM (inj := D.str) (P := fun p => decide (p ∈ l)) (F := D.str) ps (fun x hx => ⟨_, rfl, ?_⟩) ?_
  · repeat' (first | done | fail)
    refine ⟨_, in_lx (hp x hx) hl, ?_⟩
    repeat' (first | done | fail)
    refine ⟨rfl, fun _ => ?_, fun _ => rfl⟩
    repeat' (first | done | fail)
    exact ⟨rfl, rfl⟩
  · exact ⟨_, rfl, rfl, rfl⟩
theorem inSeq_asc {ps l : List Str} (hp : ∀ y ∈ ps, asc y = true) : ∀ y ∈ inSeq ps l, asc y = true := fun y hy => hp y (List.mem_filter.mp hy).1
theorem e_is_lot {ps l : List Str} (S : Sto) (hp : ∀ y ∈ ps, asc y = true) (hn : ps.length ≤ 1000) (hl : ∀ y ∈ l, asc y = true) (hm : l.length ≤ 20000) : f_is_lot [tx ps, tx l] S = .ok (.bl (isLot ps l)) S := by
  refine Res.is (wbody rfl ?_)
  unfold g_is_lot
  repeat' (first | done | fail)
  refine ⟨smL (by simp; omega), rfl, ?_⟩
  refine wcompM (inj := D.str) (P := fun p => true) (F := fun x => .bl (decide (x ∈ ps))) l (fun x hx => ⟨_, rfl, ?_⟩) ?_
  · repeat' (first | done | fail)
    refine ⟨rfl, fun _ => ?_, fun h => nomatch h⟩
    repeat' (first | done | dsimp only [List.cons_append, List.nil_append] | with_reducible refine Res.eq (e_is_word _ (hl x hx) hp) ?_ | fail)
    exact ⟨rfl, rfl⟩
  · refine ⟨_, by rw [filter_yes, allD_bl], ?_⟩
    repeat' (first | done | fail)
    refine ⟨fun h => ?_, fun h => ?_⟩
    · repeat' (first | done | fail)
      refine ⟨?_, rfl⟩
      unfold isLot
      have : (l.all fun x => decide (x ∈ ps)) = false := by simpa using h
      rw [this]
      rfl
    · repeat' (first | done | dsimp only [List.cons_append, List.nil_append] | with_reducible refine Res.eq (e_in_sequence _ hp hn hl) ?_ | fail)
      refine ⟨_, eq_tx (inSeq_asc hp) hl, ?_, rfl⟩
      unfold isLot
      have : (l.all fun x => decide (x ∈ ps)) = true := by simpa using h
      rw [this]
      rfl
theorem split_cons {b : Nat} {x : Str} (hx : txOk b x) : ∃ w ns, Txt.split x " " = w :: ns ∧ txOk b w ∧ (∀ n ∈ ns, txOk b n) ∧ ns.length ≤ b := by
  obtain ⟨h1, h2, h3⟩ := splitB hx
  cases e : Txt.split x " " with
  | nil => exact absurd e h1
  | cons w ns =>
    rw [e] at h2 h3
    exact ⟨w, ns, rfl, h3 w (List.mem_cons_self ..), fun n hn => h3 n (List.mem_cons_of_mem _ hn), by simp only [List.length_cons] at h2; omega⟩
def optD (o : Option (List Str)) : D := match o with
  | some l => tx l
  | none => .non
theorem e_places_in {b : Nat} {x : Str} (S : Sto) (hx : txOk b x) (hb : b ≤ 9000) : f_places_in [.str x] S = .ok (optD (placesP x)) S := by
  obtain ⟨w, ns, e, hw, hns, hl⟩ := split_cons hx
  refine Res.is (wbody rfl ?_)
  unfold g_places_in
  repeat' (first | done | fail)
  refine ⟨_, splitDB (by have := hx.2; omega), ?_⟩
  rw [e]
  refine exL ⟨by simp; omega, ?_⟩
  repeat' (first | done | fail)
  have un : ∀ (P : Prop) [Decidable P], (placesP x) = (if P then some ns else none) → True := fun _ _ _ => trivial
  have ep : placesP x = if w = "places" ∧ (3 ≤ ns.length ∧ ns.length ≤ 8) ∧ ns.all okName = true ∧ ns.Nodup then some ns else none := by
    unfold placesP
    rw [e]
  refine ⟨fun h1 => ?_, fun h1 => ?_⟩
  · repeat' (first | done | fail)
    rw [ep, if_neg (fun h => by simp at h1; exact h1 h.1)]
    exact ⟨rfl, rfl⟩
  have h1 : w = "places" := by simpa using h1
  repeat' (first | done | fail)
  refine ⟨fun h2 => ?_, fun h2 => ?_⟩
  · repeat' (first | done | fail)
    refine ⟨fun h3 => ?_, fun h3 => ?_⟩
    · repeat' (first | done | fail)
      rw [ep, if_neg (fun h => by simp at h3; omega)]
      exact ⟨rfl, rfl⟩
    · repeat' (first | done | fail)
      refine ⟨smL (by simp; omega), rfl, ?_⟩
      refine wcompM (inj := D.str) (P := fun p => true) (F := fun x => .bl (okName x)) ns (fun x hx => ⟨_, rfl, ?_⟩) ?_
      · repeat' (first | done | fail)
        refine ⟨rfl, fun _ => ?_, fun h => nomatch h⟩
        have hq : x.length ≤ 100000 := Nat.le_trans (hns x hx).2 (by omega)
        repeat' (first | done | dsimp only [List.cons_append, List.nil_append] | with_reducible refine Res.eq (e_is_name _ hq) ?_ | fail)
        exact ⟨rfl, rfl⟩
      · refine ⟨_, by rw [filter_yes, allD_bl], ?_⟩
        repeat' (first | done | fail)
        refine ⟨fun h4 => ?_, fun h4 => ?_⟩
        · repeat' (first | done | fail)
          rw [ep, if_neg (fun h => by rw [h.2.2.1] at h4; exact nomatch h4)]
          exact ⟨rfl, rfl⟩
        · repeat' (first | done | fail)
          refine ⟨_, lenSet_lx (by simp at h3; omega), ?_⟩
          repeat' (first | done | fail)
          have e2 := dis_nodup ns
          refine ⟨fun h5 => ?_, fun h5 => ?_⟩
          · repeat' (first | done | fail)
            have h6 : ns.Nodup := by rw [List.length_map, e2] at h5; exact of_decide_eq_true h5
            rw [ep, if_pos ⟨h1, ⟨by simp at h2; omega, by simp at h3; omega⟩, by simpa using h4, h6⟩]
            exact ⟨rfl, rfl⟩
          · repeat' (first | done | fail)
            have h6 : ¬ ns.Nodup := by rw [List.length_map, e2] at h5; exact of_decide_eq_false h5
            rw [ep, if_neg (fun h => h6 h.2.2.2)]
            exact ⟨rfl, rfl⟩
  · repeat' (first | done | fail)
    rw [ep, if_neg (fun h => by simp at h2; omega)]
    exact ⟨rfl, rfl⟩
theorem e_watchers_in {b : Nat} {x : Str} {ps : List Str} (S : Sto) (hp : ∀ y ∈ ps, asc y = true) (hn : ps.length ≤ 1000) (hx : txOk b x) (hb : b ≤ 9000) : f_watchers_in [tx ps, .str x] S = .ok (optD (watchP ps x)) S := by
  obtain ⟨w, ns, e, hw, hns, hl⟩ := split_cons hx
  have ep : watchP ps x = if w = "watchers" ∧ 2 ≤ ns.length ∧ isLot ps ns = true then some ns else none := by
    unfold watchP
    rw [e]
  refine Res.is (wbody rfl ?_)
  unfold g_watchers_in
  repeat' (first | done | fail)
  refine ⟨_, splitDB (by have := hx.2; omega), ?_⟩
  rw [e]
  refine exL ⟨by simp; omega, ?_⟩
  repeat' (first | done | fail)
  refine ⟨fun h1 => ?_, fun h1 => ?_⟩
  · repeat' (first | done | fail)
    refine ⟨fun h2 => ?_, fun h2 => ?_⟩
    · repeat' (first | done | dsimp only [List.cons_append, List.nil_append] | with_reducible refine Res.eq (e_is_lot _ hp hn (fun y hy => (hns y hy).1) (by omega)) ?_ | fail)
      refine ⟨fun h3 => ?_, fun h3 => ?_⟩
      · repeat' (first | done | fail)
        rw [ep, if_pos ⟨by simpa using h1, by simp at h2; omega, h3⟩]
        exact ⟨rfl, rfl⟩
      · repeat' (first | done | fail)
        rw [ep, if_neg (fun h => by rw [h.2.2] at h3; exact nomatch h3)]
        exact ⟨rfl, rfl⟩
    · repeat' (first | done | fail)
      rw [ep, if_neg (fun h => by simp at h2; omega)]
      exact ⟨rfl, rfl⟩
  · repeat' (first | done | fail)
    rw [ep, if_neg (fun h => by simp at h1; exact h1 h.1)]
    exact ⟨rfl, rfl⟩
theorem e_tie_in {b : Nat} {x : Str} {ps : List Str} (S : Sto) (hp : ∀ y ∈ ps, asc y = true) (hn : ps.length ≤ 1000) (hx : txOk b x) (hb : b ≤ 9000) : f_tie_in [tx ps, .str x] S = .ok (optD (tieP ps x)) S := by
  obtain ⟨w, ns, e, hw, hns, hl⟩ := split_cons hx
  have ep : tieP ps x = if w = "tie" ∧ ns.length = 2 ∧ isLot ps ns = true then some ns else none := by
    unfold tieP
    rw [e]
  refine Res.is (wbody rfl ?_)
  unfold g_tie_in
  repeat' (first | done | fail)
  refine ⟨_, splitDB (by have := hx.2; omega), ?_⟩
  rw [e]
  refine exL ⟨by simp; omega, ?_⟩
  repeat' (first | done | fail)
  refine ⟨fun h1 => ?_, fun h1 => ?_⟩
  · repeat' (first | done | fail)
    refine ⟨fun h2 => ?_, fun h2 => ?_⟩
    · repeat' (first | done | dsimp only [List.cons_append, List.nil_append] | with_reducible refine Res.eq (e_is_lot _ hp hn (fun y hy => (hns y hy).1) (by omega)) ?_ | fail)
      refine ⟨fun h3 => ?_, fun h3 => ?_⟩
      · repeat' (first | done | fail)
        rw [ep, if_pos ⟨by simpa using h1, by simp at h2; omega, h3⟩]
        exact ⟨rfl, rfl⟩
      · repeat' (first | done | fail)
        rw [ep, if_neg (fun h => by rw [h.2.2] at h3; exact nomatch h3)]
        exact ⟨rfl, rfl⟩
    · repeat' (first | done | fail)
      rw [ep, if_neg (fun h => by simp at h2; omega)]
      exact ⟨rfl, rfl⟩
  · repeat' (first | done | fail)
    rw [ep, if_neg (fun h => by simp at h1; exact h1 h.1)]
    exact ⟨rfl, rfl⟩
theorem tieP_mem {b : Nat} {ps : List Str} {x : Str} {p : List Str} (hx : txOk b x) (h : tieP ps x = some p) : p.length = 2 ∧ ∀ y ∈ p, txOk b y := by
  obtain ⟨w, ns, e, hw, hns, hl⟩ := split_cons hx
  unfold tieP at h
  rw [e] at h
  simp only at h
  split at h
  · rename_i hc
    cases h
    exact ⟨hc.2.1, hns⟩
  · cases h
theorem placesP_mem {b : Nat} {x : Str} {p : List Str} (hx : txOk b x) (h : placesP x = some p) : (3 ≤ p.length ∧ p.length ≤ 8) ∧ p.all okName = true ∧ p.Nodup ∧ ∀ y ∈ p, txOk b y := by
  obtain ⟨w, ns, e, hw, hns, hl⟩ := split_cons hx
  unfold placesP at h
  rw [e] at h
  simp only at h
  split at h
  · rename_i hc
    cases h
    exact ⟨hc.2.1, hc.2.2.1, hc.2.2.2, hns⟩
  · cases h
theorem isN_opt (o : Option (List Str)) : isND (optD o) .non = some (.bl o.isNone) := by cases o <;> rfl
/-- Net(text) -/
theorem e_Net {b : Nat} {t : Str} (S : Sto) (ht : txOk b t) (hb : b ≤ 9000) : f_Net___init__ [.str t] S = match netP t with
    | .error n => .exc 1 (.int n) S
    | .ok n => .ok (netD t n) S := by
  obtain ⟨s1, s2, s3⟩ := splitF ht
  have key : Res (f_Net___init__ [.str t] S) (fun d S' => S' = S ∧ ∃ n, netP t = .ok n ∧ d = netD t n) (fun c d S' => S' = S ∧ c = 1 ∧ ∃ n, netP t = .error n ∧ d = .int (n : Nat)) := by
    cases e : Txt.split t "\n" with
    | nil => exact absurd e s1
    | cons l0 rest =>
      rw [e] at s2 s3
      have h0 := s3 l0 (List.mem_cons_self ..)
      refine winit rfl ?_
      unfold g_Net___init__
      repeat' (first | done | fail)
      refine ⟨_, splitDF (by have := ht.2; omega), ?_⟩
      rw [e]
      dsimp only [lx, List.map_cons]
      repeat' (first | done | dsimp only [List.cons_append, List.nil_append] | with_reducible refine Res.eq (e_places_in _ h0 hb) ?_ | fail)
      cases ep : placesP l0 with
      | none =>
        dsimp only [optD]
        repeat' (first | done | fail)
        exact ⟨rfl, rfl, 1, by unfold netP; rw [e]; simp only [ep], rfl⟩
      | some ps =>
        dsimp only [optD]
        obtain ⟨p1, p2, p3, p4⟩ := placesP_mem h0 ep
        have hp : ∀ y ∈ ps, asc y = true := fun y hy => (p4 y hy).1
        repeat' (first | done | fail)
        cases rest with
        | nil =>
          refine ⟨fun h => by simp at h, fun _ => ?_⟩
          repeat' (first | done | fail)
          exact ⟨rfl, rfl, 2, by unfold netP; rw [e]; simp only [ep], rfl⟩
        | cons l1 ls =>
          have h1 := s3 l1 (by simp)
          refine ⟨fun _ => ?_, fun h => by simp at h; omega⟩
          repeat' (first | done | dsimp only [List.cons_append, List.nil_append] | with_reducible refine Res.eq (e_watchers_in _ hp (by omega) h1 hb) ?_ | fail)
          cases ew : watchP ps l1 with
          | none =>
            dsimp only [optD]
            repeat' (first | done | fail)
            exact ⟨rfl, rfl, 2, by unfold netP; rw [e]; simp only [ep, ew], rfl⟩
          | some ws =>
            dsimp only [optD]
            repeat' (first | done | fail)
            have ec : cutL (D.str l0 :: D.str l1 :: List.map D.str ls) (some 2) none = ls.map D.str := by
              rw [show (some (2 : Int)) = some ((2 : Nat) : Int) from rfl, cut_drop]
              rfl
            rw [ec, enumD_F]
            have hls : ∀ l ∈ ls, txOk b l := fun l hl => s3 l (by simp [hl])
            refine wforL (I := fun rest m => ∃ (acc : List (List Str)) (n : Nat) (ls' : List Str) (e6 e7 e8 : Sl), m = ⟨[.slf, .val (.str t), .val (lx (l0 :: l1 :: ls)), .val (tx ps), .val (tx ws), .bld (acc.map tx), e6, e7, e8], S⟩ ∧ rest = enumF n (ls'.map .str) ∧ (∀ l ∈ ls', txOk b l) ∧ (∀ p ∈ acc, p.length = 2 ∧ ∀ y ∈ p, asc y = true) ∧ acc.length ≤ 14 ∧ tiesP ps ls' n acc = tiesP ps ls 0 []) ?_ ?_ _ _ ⟨[], 0, ls, .un, .un, .un, rfl, rfl, hls, (fun p h => nomatch h), Nat.zero_le _, rfl⟩
            · rintro d ds m ⟨acc, n, ls', e6, e7, e8, rfl, hr, hl', ha, hc, ht⟩
              cases ls' with
              | nil => cases hr
              | cons l ls' =>
                simp only [List.map_cons, enumF, List.cons.injEq] at hr
                obtain ⟨rfl, rfl⟩ := hr
                have hl0 := hl' l (List.mem_cons_self ..)
                refine ⟨_, rfl, ?_⟩
                dsimp only
                repeat' (first | done | dsimp only [List.cons_append, List.nil_append] | with_reducible refine Res.eq (e_tie_in _ hp (by omega) hl0 hb) ?_ | fail)
                have err : ∀ {n' : Nat} {d : D} {S' : Sto} {c : Nat}, tiesP ps ls 0 [] = .error n' → S' = S → c = 1 → d = .int (n' : Nat) → (S' = S ∧ c = 1 ∧ ∃ n, netP t = Except.error n ∧ d = D.int ↑n) := fun {n' d S' c} h1 h2 h3 h4 => ⟨h2, h3, n', by unfold netP; rw [e]; simp only [ep, ew, h1], h4⟩
                have num : D.int ((n : Int) + 2 + 1) = .int ((n + 3 : Nat) : Int) := by congr 1
                cases et : tieP ps l with
                | none =>
                  dsimp only [optD]
                  repeat' (first | done | fail)
                  refine err (n' := n + 3) ?_ rfl rfl num
                  rw [← ht]
                  simp only [tiesP, et]
                | some p =>
                  dsimp only [optD]
                  obtain ⟨q1, q2⟩ := tieP_mem hl0 et
                  have hpa : ∀ y ∈ p, asc y = true := fun y hy => (q2 y hy).1
                  repeat' (first | done | fail)
                  refine ⟨_, (inSl_b (by with_unfolding_all exact rfl)).trans (in_ties hpa fun q hq => (ha q hq).2), ?_⟩
                  repeat' (first | done | fail)
                  refine ⟨fun hm => ?_, fun hm => ?_⟩
                  · repeat' (first | done | fail)
                    refine err (n' := n + 3) ?_ rfl rfl num
                    rw [← ht]
                    simp only [tiesP, et]
                    rw [if_pos (.inl (of_decide_eq_true hm))]
                  · repeat' (first | done | fail)
                    refine ⟨fun h14 => ?_, fun h14 => ?_⟩
                    · repeat' (first | done | fail)
                      refine err (n' := n + 3) ?_ rfl rfl num
                      rw [← ht]
                      simp only [tiesP, et]
                      rw [if_pos (.inr (by simp at h14; omega))]
                    · repeat' (first | done | fail)
                      refine ⟨_, _, _, rfl, by show (if _ then _ else _) = _; rw [if_pos (smL (by simp; omega))], ?_⟩
                      repeat' (first | done | fail)
                      have hn14 : acc.length ≠ 14 := by simp at h14; omega
                      refine ⟨acc ++ [p], n + 1, ls', .val (.int n), .val (.str l), .val (tx p), by simp [List.map_append], rfl, fun l hl => hl' l (List.mem_cons_of_mem _ hl), ?_, by simp; omega, ?_⟩
                      · intro q hq
                        rcases List.mem_append.mp hq with hq | hq
                        · exact ha q hq
                        · rw [List.mem_singleton.mp hq]; exact ⟨q1, hpa⟩
                      · rw [← ht]
                        simp only [tiesP, et]
                        rw [if_neg (fun h => h.elim (of_decide_eq_false hm) hn14)]
            · rintro m ⟨acc, n, ls', e6, e7, e8, rfl, hr, hl', ha, hc, ht⟩
              cases ls' with
              | cons l ls' => cases hr
              | nil =>
                simp only [tiesP] at ht
                repeat' (first | done | fail)
                refine ⟨fun h => ?_, fun h => ?_⟩
                · repeat' (first | done | fail)
                  have h0 : acc = [] := by simpa using h
                  refine ⟨rfl, rfl, 3, ?_, rfl⟩
                  unfold netP
                  rw [e]
                  simp only [ep, ew, ← ht, h0]
                · repeat' (first | done | fail)
                  refine ⟨rfl, ⟨ps, ws, acc⟩, ?_, rfl⟩
                  unfold netP
                  rw [e]
                  cases acc with
                  | nil => simp at h
                  | cons a acc => simp only [ep, ew, ← ht]
  cases er : f_Net___init__ [.str t] S with
  | bad => rw [er] at key; exact key.elim
  | ok d S' =>
    rw [er] at key
    obtain ⟨rfl, n, h1, rfl⟩ := key
    simp only [h1]
  | exc c d S' =>
    rw [er] at key
    obtain ⟨rfl, rfl, n, h1, rfl⟩ := key
    simp only [h1]
/-- Net(no string) -/
theorem e_NetX {v : D} (S : Sto) (h : isiD "str" v = some (.bl false)) : f_Net___init__ [v] S = .exc 1 (.int 0) S := by
  refine Res.isExc (winit rfl ?_)
  unfold g_Net___init__
  repeat' (first | done | fail)
  refine ⟨_, h, ?_⟩
  repeat' (first | done | fail)
  exact ⟨rfl, rfl, rfl⟩
theorem e_Net_text {t : Str} {n : Net3} (S : Sto) : f_Net_text [netD t n] S = .ok (.str t) S := by
  refine Res.is (wbody rfl ?_)
  unfold g_Net_text
  repeat' (first | done | fail)
  exact ⟨rfl, rfl⟩
end Z

set_option Elab.async false
set_option linter.all false
set_option maxRecDepth 100000
set_option maxHeartbeats 4000000
/-! N2: nets by lines of words -/
namespace Z
open PySem PySem.Spec PyProof.Rows L2 RZ TL
def placesW : List Str → Option (List Str)
  | [] => none
  | w :: ns => if w = "places" ∧ (3 ≤ ns.length ∧ ns.length ≤ 8) ∧ ns.all okName = true ∧ ns.Nodup then some ns else none
def watchW (ps : List Str) : List Str → Option (List Str)
  | [] => none
  | w :: ns => if w = "watchers" ∧ 2 ≤ ns.length ∧ isLot ps ns = true then some ns else none
def tieW (ps : List Str) : List Str → Option (List Str)
  | [] => none
  | w :: ns => if w = "tie" ∧ ns.length = 2 ∧ isLot ps ns = true then some ns else none
def tiesW (ps : List Str) : List (List Str) → Nat → List (List Str) → Except Nat (List (List Str))
  | [], _, acc => .ok acc
  | l :: ls, n, acc => match tieW ps l with
    | none => .error (n + 3)
    | some p => if p ∈ acc ∨ acc.length = 14 then .error (n + 3) else tiesW ps ls (n + 1) (acc ++ [p])
def netW : List (List Str) → Except Nat Net3
  | [] => .error 1
  | l0 :: rest => match placesW l0 with
    | none => .error 1
    | some ps => match rest with
      | [] => .error 2
      | l1 :: ls => match watchW ps l1 with
        | none => .error 2
        | some ws => match tiesW ps ls 0 [] with
          | .error n => .error n
          | .ok [] => .error 3
          | .ok (t :: ts) => .ok ⟨ps, ws, t :: ts⟩
theorem placesP_W (x : Str) : placesP x = placesW (Txt.split x " ") := rfl
theorem watchP_W (ps : List Str) (x : Str) : watchP ps x = watchW ps (Txt.split x " ") := rfl
theorem tieP_W (ps : List Str) (x : Str) : tieP ps x = tieW ps (Txt.split x " ") := rfl
theorem tiesP_W (ps : List Str) : ∀ (ls : List Str) (n : Nat) (acc : List (List Str)), tiesP ps ls n acc = tiesW ps (ls.map fun l => Txt.split l " ") n acc
  | [], n, acc => rfl
  | l :: ls, n, acc => by
    simp only [tiesP, List.map_cons, tiesW, tieP_W, tiesP_W ps ls] <;> (cases tieW ps (Txt.split l " ") <;> rfl)
theorem netP_W (t : Str) : netP t = netW ((Txt.split t "\n").map fun l => Txt.split l " ") := by
  unfold netP
  cases Txt.split t "\n" with
  | nil => rfl
  | cons l0 rest =>
    simp only [List.map_cons, netW, placesP_W]
    cases placesW (Txt.split l0 " ") with
    | none => rfl
    | some ps =>
      cases rest with
      | nil => rfl
      | cons l1 ls =>
        simp only [List.map_cons, watchP_W, tiesP_W] <;> rfl
/-! ### lines and texts -/
def lineOf (ws : List Str) : Str := Txt.join " " ws
def textOf (ls : List (List Str)) : Str := Txt.join "\n" (ls.map lineOf)
structure okWord (w : Str) : Prop where
  a : asc w = true
  b : 32 ∉ tl w
  f : 10 ∉ tl w
theorem mem_joinL {S : List Nat} {c : Nat} : ∀ {ps : List (List Nat)}, c ∈ joinL S ps → c ∈ S ∨ ∃ p ∈ ps, c ∈ p
  | [], h => by cases h
  | [p], h => .inr ⟨p, by simp, h⟩
  | p :: q :: r, h => by
    rcases List.mem_append.mp (show c ∈ p ++ (S ++ joinL S (q :: r)) from h) with h | h
    · exact .inr ⟨p, by simp, h⟩
    · rcases List.mem_append.mp h with h | h
      · exact .inl h
      · rcases mem_joinL h with h | ⟨p', h1, h2⟩
        · exact .inl h
        · exact .inr ⟨p', List.mem_cons_of_mem _ h1, h2⟩
theorem mem_join {y : Str} {ps : List Str} {c : Nat} (h : c ∈ tl (Txt.join y ps)) : c ∈ tl y ∨ ∃ p ∈ ps, c ∈ tl p := by
  rw [join_eq, tl_join] at h
  rcases mem_joinL h with h | ⟨p, h1, h2⟩
  · exact .inl h
  · obtain ⟨q, hq, rfl⟩ := List.mem_map.mp h1
    exact .inr ⟨q, hq, h2⟩
theorem len_joinL {S : List Nat} {a : Nat} : ∀ {ps : List (List Nat)}, (∀ p ∈ ps, p.length ≤ a) → (joinL S ps).length ≤ ps.length * (a + S.length)
  | [], h => by simp [joinL]
  | [p], h => by
    have := h p (by simp)
    simp only [joinL, List.length_cons, List.length_nil]
    omega
  | p :: q :: r, h => by
    have h1 := h p (by simp)
    have h2 := len_joinL (S := S) (ps := q :: r) fun x hx => h x (List.mem_cons_of_mem _ hx)
    rw [show joinL S (p :: q :: r) = p ++ (S ++ joinL S (q :: r)) from rfl]
    simp only [List.length_append]
    rw [List.length_cons, Nat.succ_mul]
    omega
theorem len_join {y : Str} {a : Nat} {ps : List Str} (h : ∀ p ∈ ps, p.length ≤ a) : (Txt.join y ps).length ≤ ps.length * (a + y.length) := by
  rw [join_eq, len_tl, tl_join]
  have := len_joinL (S := tl y) (a := a) (ps := ps.map tl) fun p hp => by
    obtain ⟨q, hq, rfl⟩ := List.mem_map.mp hp
    rw [← len_tl]
    exact h q hq
  rw [List.length_map] at this
  rw [len_tl y]
  exact this
theorem split_line {ws : List Str} (h : ws ≠ []) (hw : ∀ w ∈ ws, okWord w) : Txt.split (lineOf ws) " " = ws := split_join (s := 32) (S := []) (by decide) (by decide +kernel) h fun w h => (hw w h).b
theorem line_f {ws : List Str} (hw : ∀ w ∈ ws, okWord w) : 10 ∉ tl (lineOf ws) := fun h => by
  rcases mem_join h with h | ⟨p, h1, h2⟩
  · exact absurd h (by decide)
  · exact (hw p h1).f h2
theorem line_a {ws : List Str} (hw : ∀ w ∈ ws, okWord w) : asc (lineOf ws) = true := List.all_eq_true.mpr fun c h => by
  rcases mem_join h with h | ⟨p, h1, h2⟩
  · have : c = 32 := by
      have e : tl (" " : Str) = [32] := by decide
      rw [e] at h
      exact List.mem_singleton.mp h
    subst this
    decide
  · exact List.all_eq_true.mp (hw p h1).a c h2
structure okLines (ls : List (List Str)) : Prop where
  ne : ls ≠ []
  l : ∀ l ∈ ls, l ≠ [] ∧ ∀ w ∈ l, okWord w
theorem split_text {ls : List (List Str)} (h : okLines ls) : Txt.split (textOf ls) "\n" = ls.map lineOf :=
  split_join (s := 10) (S := []) (by decide) (by decide +kernel) (fun e => h.ne (List.map_eq_nil_iff.mp e)) fun p hp => by
    obtain ⟨l, hl, rfl⟩ := List.mem_map.mp hp
    exact line_f (h.l l hl).2
theorem netP_text {ls : List (List Str)} (h : okLines ls) : netP (textOf ls) = netW ls := by
  rw [netP_W, split_text h, List.map_map]
  congr 1
  conv => rhs; rw [← List.map_id ls]
  exact List.map_congr_left fun l hl => split_line (h.l l hl).1 (h.l l hl).2
theorem text_ok {ls : List (List Str)} {a k n : Nat} (h : okLines ls) (hw : ∀ l ∈ ls, l.length ≤ k ∧ ∀ w ∈ l, w.length ≤ a) (hn : ls.length ≤ n) : txOk (n * (k * (a + 1) + 1)) (textOf ls) := by
  refine ⟨List.all_eq_true.mpr fun c hc => ?_, ?_⟩
  · rcases mem_join hc with h1 | ⟨p, h1, h2⟩
    · have : c = 10 := by
        have e : tl ("\n" : Str) = [10] := by decide
        rw [e] at h1
        exact List.mem_singleton.mp h1
      subst this
      decide
    · obtain ⟨l, hl, rfl⟩ := List.mem_map.mp h1
      exact List.all_eq_true.mp (line_a (h.l l hl).2) c h2
  · have := len_join (y := "\n") (a := k * (a + 1)) (ps := ls.map lineOf) fun p hp => by
      obtain ⟨l, hl, rfl⟩ := List.mem_map.mp hp
      have h1 := len_join (y := " ") (a := a) (ps := l) (hw l hl).2
      have e : (" " : Str).length = 1 := by decide
      rw [e] at h1
      exact Nat.le_trans h1 (Nat.mul_le_mul_right _ (hw l hl).1)
    rw [List.length_map] at this
    have e : ("\n" : Str).length = 1 := by decide
    rw [e] at this
    exact Nat.le_trans this (Nat.mul_le_mul_right _ hn)
theorem okName_word {w : Str} (h : okName w = true) : okWord w ∧ w.length ≤ 8 := by
  simp only [okName, Bool.and_eq_true, decide_eq_true_eq, List.all_eq_true] at h
  have key : ∀ c ∈ LET.cps.toList, c < 128 ∧ c ≠ 32 ∧ c ≠ 10 := by decide
  exact ⟨⟨List.all_eq_true.mpr fun c hc => decide_eq_true (key c (h.2.2 c hc)).1, fun hc => (key _ (h.2.2 _ hc)).2.1 rfl, fun hc => (key _ (h.2.2 _ hc)).2.2 rfl⟩, h.2.1⟩
/-! ### lots -/
theorem inSeq_sub {ps v : List Str} (hn : ps.Nodup) (h : v.Sublist ps) : inSeq ps v = v := by
  induction h with
  | slnil => rfl
  | cons a h ih =>
    rename_i l1 l2
    have hn' := List.nodup_cons.mp hn
    have hna : ¬ a ∈ l1 := fun q => hn'.1 (h.subset q)
    unfold inSeq at ih ⊢
    rw [List.filter_cons_of_neg (by simpa using hna)]
    exact ih hn'.2
  | cons_cons a h ih =>
    rename_i l1 l2
    have hn' := List.nodup_cons.mp hn
    unfold inSeq at ih ⊢
    rw [List.filter_cons_of_pos (by simp)]
    congr 1
    rw [← ih hn'.2]
    rw [ih hn'.2]
    have e : l2.filter (fun p => decide (p ∈ a :: l1)) = l2.filter fun p => decide (p ∈ l1) := by
      apply List.filter_congr
      intro x hx
      have : x ≠ a := fun q => hn'.1 (q ▸ hx)
      simp [this]
    rw [e]
    exact ih hn'.2
theorem lot_sub {ps v : List Str} (hn : ps.Nodup) (h : v.Sublist ps) : isLot ps v = true := by
  unfold isLot
  rw [Bool.and_eq_true, decide_eq_true_eq, List.all_eq_true]
  exact ⟨fun x hx => decide_eq_true (h.subset hx), inSeq_sub hn h⟩
theorem sub_lot {ps v : List Str} (h : isLot ps v = true) : v.Sublist ps := by
  unfold isLot at h
  rw [Bool.and_eq_true, decide_eq_true_eq] at h
  have := h.2
  rw [← this]
  exact List.filter_sublist
theorem lot_iff {ps v : List Str} (hn : ps.Nodup) : isLot ps v = true ↔ v.Sublist ps := ⟨sub_lot, lot_sub hn⟩
theorem lot_dup {ps : List Str} (hn : ps.Nodup) (a : Str) : isLot ps [a, a] = false := by
  cases h : isLot ps [a, a] with
  | false => rfl
  | true =>
    have := (sub_lot h).nodup hn
    simp at this
theorem lot_swap {ps : List Str} {a b : Str} (hn : ps.Nodup) (h : [a, b].Sublist ps) : isLot ps [b, a] = false := by
  cases q : isLot ps [b, a] with
  | false => rfl
  | true =>
    have h1 := inSeq_sub hn h
    have h2 := inSeq_sub hn (sub_lot q)
    have e : inSeq ps [b, a] = inSeq ps [a, b] := by
      unfold inSeq
      apply List.filter_congr
      intro x _
      simp [or_comm]
    rw [e, h1] at h2
    have hd := h.nodup hn
    simp only [List.cons.injEq] at h2
    rw [h2.1] at hd
    simp at hd
/-! ### nets that are right -/
structure okNet (n : Net3) : Prop where
  p1 : 3 ≤ n.ps.length
  p2 : n.ps.length ≤ 8
  pn : n.ps.all okName = true
  pd : n.ps.Nodup
  w1 : 2 ≤ n.ws.length
  w2 : n.ws.Sublist n.ps
  t1 : n.ts ≠ []
  t2 : n.ts.length ≤ 14
  tl : ∀ t ∈ n.ts, t.length = 2 ∧ t.Sublist n.ps
  td : n.ts.Nodup
def linesOf (n : Net3) : List (List Str) := ("places" :: n.ps) :: ("watchers" :: n.ws) :: n.ts.map ("tie" :: ·)
theorem ties_run (ps : List Str) : ∀ (ts : List (List Str)) (k : Nat) (acc : List (List Str)) (rest : List (List Str)), (∀ t ∈ ts, t.length = 2 ∧ isLot ps t = true) → (acc ++ ts).Nodup → acc.length + ts.length ≤ 14 → tiesW ps (ts.map (("tie" : Str) :: ·) ++ rest) k acc = tiesW ps rest (k + ts.length) (acc ++ ts)
  | [], k, acc, rest, _, _, _ => by simp
  | t :: ts, k, acc, rest, h, hd, hl => by
    have ht := h t (List.mem_cons_self ..)
    have hna : t ∉ acc := fun q => by
      rw [List.nodup_append] at hd
      exact hd.2.2 t q t (List.mem_cons_self ..) rfl
    have e : tieW ps (("tie" : Str) :: t) = some t := by
      show (if _ then _ else _) = _
      rw [if_pos ⟨rfl, ht.1, ht.2⟩]
    simp only [List.map_cons, List.cons_append, tiesW, e]
    rw [if_neg (fun q => q.elim hna (fun q => by simp only [List.length_cons] at hl; omega))]
    rw [ties_run ps ts (k + 1) (acc ++ [t]) rest (fun t ht => h t (List.mem_cons_of_mem _ ht)) (by simpa using hd) (by simp only [List.length_append, List.length_cons, List.length_nil] at hl ⊢; omega)]
    simp only [List.append_assoc, List.cons_append, List.nil_append, List.length_cons]
    congr 1
    omega
theorem placesW_ok {ps : List Str} (h1 : 3 ≤ ps.length) (h2 : ps.length ≤ 8) (h3 : ps.all okName = true) (h4 : ps.Nodup) : placesW ("places" :: ps) = some ps := if_pos ⟨rfl, ⟨h1, h2⟩, h3, h4⟩
theorem watchW_ok {ps ws : List Str} (hn : ps.Nodup) (h1 : 2 ≤ ws.length) (h2 : ws.Sublist ps) : watchW ps ("watchers" :: ws) = some ws := if_pos ⟨rfl, h1, lot_sub hn h2⟩
theorem netW_ok {n : Net3} (h : okNet n) : netW (linesOf n) = .ok n := by
  have e := ties_run n.ps n.ts 0 [] [] (fun t ht => ⟨(h.tl t ht).1, lot_sub h.pd (h.tl t ht).2⟩) (by simpa using h.td) (by have := h.t2; simpa using this)
  rw [List.append_nil, List.nil_append] at e
  unfold linesOf netW
  simp only [placesW_ok h.p1 h.p2 h.pn h.pd, watchW_ok h.pd h.w1 h.w2, e, tiesW]
  obtain ⟨ps, ws, ts⟩ := n
  cases ts with
  | nil => exact absurd rfl h.t1
  | cons t ts => rfl
end Z

set_option Elab.async false
set_option linter.all false
set_option maxRecDepth 100000
set_option maxHeartbeats 2000000
namespace Z
open PySem PySem.Spec PyProof.Rows L2 RZ
/-! the drawing of numbers -/
structure PotAt (S : List (List D)) (n k : Nat) : Prop where
  ex : ∃ a b c : Int, S[n]? = some [.int a, .int b, .int c] ∧ 0 ≤ a ∧ Bt 1000 a ∧ 0 ≤ b ∧ Bt 62 b ∧ 0 ≤ c ∧ c ≤ k
theorem PotAt.mono {S : List (List D)} {n j k : Nat} (h : PotAt S n j) (e : j ≤ k) : PotAt S n k := by
  obtain ⟨a, b, c, h1, h2, h3, h4, h5, h6, h7⟩ := h.ex
  exact ⟨a, b, c, h1, h2, h3, h4, h5, h6, by omega⟩
theorem set_at {S : List (List D)} {n : Nat} {x y : List D} (h : S[n]? = some x) : (S.set n y)[n]? = some y := by
  have := (List.getElem?_eq_some_iff.mp h).1
  simp [List.getElem?_set, this]
theorem snoc_at {S : List (List D)} {x : List D} : (S ++ [x])[S.length]? = some x := by simp
theorem fdiv_bt {a u : Int} {k : Nat} (h0 : 0 ≤ a) (hu : 0 < u) (h : Bt k a) : 0 ≤ a.fdiv u ∧ Bt k (a.fdiv u) := by
  rw [Int.fdiv_eq_ediv_of_nonneg _ (by omega)]
  have h1 := Int.ediv_nonneg h0 (show 0 ≤ u by omega)
  have h2 := Int.ediv_le_self u h0
  unfold Bt at *
  exact ⟨h1, by omega⟩
theorem at5 (i : Int) (h0 : 0 ≤ i) (h : i < 5) : ∃ p, atI [D.int 2147483647, .int 2147483629, .int 2147483587, .int 2147483579, .int 2147483563] i = some (.int p) ∧ 0 < p ∧ p < 2 ^ 31 := by
  have : i = 0 ∨ i = 1 ∨ i = 2 ∨ i = 3 ∨ i = 4 := by omega
  rcases this with rfl | rfl | rfl | rfl | rfl
  · exact ⟨2147483647, rfl, by decide, by decide⟩
  · exact ⟨2147483629, rfl, by decide, by decide⟩
  · exact ⟨2147483587, rfl, by decide, by decide⟩
  · exact ⟨2147483579, rfl, by decide, by decide⟩
  · exact ⟨2147483563, rfl, by decide, by decide⟩
theorem small5 : small 5 = true := by decide
theorem small3 : small 3 = true := by decide
theorem e__law_take {S : List (List D)} {n k : Nat} {u : Int} (h : PotAt S n k) (hk : k < 1000000) (hu : 0 < u) (hb : Bt 100 u) : ∃ r S', f__law_take [.cel n, .int u] S = .ok (.int r) S' ∧ 0 ≤ r ∧ r < u ∧ PotAt S' n (k + 1) := by
  obtain ⟨a, b, c, hS, a0, a1, b0, b1, c0, c1⟩ := h.ex
  simp only [f__law_take, g__law_take, bodyFn, endR, padE, zseq, zret, zif, zpass, znext, zexpr, zasg, gset, gtup, gcons, gnil, zpar, setAll, sval, snew, snil, zsetB, zsetItem, celSet, zk, zvar, zop, toB, zand, zor, znot, zite, zchain, zcons, znil, ztup, zlstF, frz, celD, zcb, zcall, backR, zidx, zneg, zisi, zslice, onone, osome, zlenP, zbld, isBld, appendK, extendK, zlistF, listS, bind_ok, thenS_ok, ofO_some, List.getElem?_cons_zero, List.getElem?_cons_succ, List.set_cons_zero, List.set_cons_succ, List.length_cons, List.length_nil, List.map_cons, List.map_nil, List.replicate, List.cons_append, List.nil_append, List.append_nil, Nat.reduceAdd, Nat.reduceSub, Nat.zero_add, if_true, if_false, ite_true, ite_false, reduceIte, Bool.not_true, Bool.not_false, decide_true, decide_false, Bool.false_eq_true, isND, isNotND, addD, subD, cmpI, lenD, absD, intD, tupleD, Option.map_some, Option.bind_some, Option.bind, seqD, zseqI, idxD, isi_int_non, isi_int_bl, isi_int_int, isi_int_str, isi_int_tup, isi_int_lst, isi_int_dct, isi_bool_non, isi_bool_bl, isi_bool_int, isi_bool_str, isi_bool_tup, isi_bool_lst, isi_bool_dct, isi_tuple_non, isi_tuple_bl, isi_tuple_int, isi_tuple_str, isi_tuple_tup, isi_tuple_lst, isi_tuple_dct, isi_str_non, isi_str_bl, isi_str_int, isi_str_str, isi_str_tup, isi_str_lst, isi_str_dct, isi_list_non, isi_list_bl, isi_list_int, isi_list_str, isi_list_tup, isi_list_lst, isi_list_dct, isi_dict_non, isi_dict_bl, isi_dict_int, isi_dict_str, isi_dict_tup, isi_dict_lst, isi_dict_dct, hS, at0]
  by_cases ha : 0 < a
  · simp only [decide_eq_true ha, if_true, modB hu, fdivB (show u ≠ 0 by omega) hb (by decide), bodyFn, endR, padE, zseq, zret, zif, zpass, znext, zexpr, zasg, gset, gtup, gcons, gnil, zpar, setAll, sval, snew, snil, zsetB, zsetItem, celSet, zk, zvar, zop, toB, zand, zor, znot, zite, zchain, zcons, znil, ztup, zlstF, frz, celD, zcb, zcall, backR, zidx, zneg, zisi, zslice, onone, osome, zlenP, zbld, isBld, appendK, extendK, zlistF, listS, bind_ok, thenS_ok, ofO_some, List.getElem?_cons_zero, List.getElem?_cons_succ, List.set_cons_zero, List.set_cons_succ, List.length_cons, List.length_nil, List.map_cons, List.map_nil, List.replicate, List.cons_append, List.nil_append, List.append_nil, Nat.reduceAdd, Nat.reduceSub, Nat.zero_add, if_true, if_false, ite_true, ite_false, reduceIte, Bool.not_true, Bool.not_false, decide_true, decide_false, Bool.false_eq_true, isND, isNotND, addD, subD, cmpI, lenD, absD, intD, tupleD, Option.map_some, Option.bind_some, Option.bind, seqD, zseqI, idxD, isi_int_non, isi_int_bl, isi_int_int, isi_int_str, isi_int_tup, isi_int_lst, isi_int_dct, isi_bool_non, isi_bool_bl, isi_bool_int, isi_bool_str, isi_bool_tup, isi_bool_lst, isi_bool_dct, isi_tuple_non, isi_tuple_bl, isi_tuple_int, isi_tuple_str, isi_tuple_tup, isi_tuple_lst, isi_tuple_dct, isi_str_non, isi_str_bl, isi_str_int, isi_str_str, isi_str_tup, isi_str_lst, isi_str_dct, isi_list_non, isi_list_bl, isi_list_int, isi_list_str, isi_list_tup, isi_list_lst, isi_list_dct, isi_dict_non, isi_dict_bl, isi_dict_int, isi_dict_str, isi_dict_tup, isi_dict_lst, isi_dict_dct, hS, at0, ix0]
    obtain ⟨q0, q1⟩ := fdiv_bt a0 hu a1
    exact ⟨_, _, rfl, Int.emod_nonneg _ (by omega), Int.emod_lt_of_pos _ hu, ⟨_, _, _, set_at hS, q0, q1, b0, b1, c0, by omega⟩⟩
  · simp only [decide_eq_false ha, if_false, bodyFn, endR, padE, zseq, zret, zif, zpass, znext, zexpr, zasg, gset, gtup, gcons, gnil, zpar, setAll, sval, snew, snil, zsetB, zsetItem, celSet, zk, zvar, zop, toB, zand, zor, znot, zite, zchain, zcons, znil, ztup, zlstF, frz, celD, zcb, zcall, backR, zidx, zneg, zisi, zslice, onone, osome, zlenP, zbld, isBld, appendK, extendK, zlistF, listS, bind_ok, thenS_ok, ofO_some, List.getElem?_cons_zero, List.getElem?_cons_succ, List.set_cons_zero, List.set_cons_succ, List.length_cons, List.length_nil, List.map_cons, List.map_nil, List.replicate, List.cons_append, List.nil_append, List.append_nil, Nat.reduceAdd, Nat.reduceSub, Nat.zero_add, if_true, if_false, ite_true, ite_false, reduceIte, Bool.not_true, Bool.not_false, decide_true, decide_false, Bool.false_eq_true, isND, isNotND, addD, subD, cmpI, lenD, absD, intD, tupleD, Option.map_some, Option.bind_some, Option.bind, seqD, zseqI, idxD, isi_int_non, isi_int_bl, isi_int_int, isi_int_str, isi_int_tup, isi_int_lst, isi_int_dct, isi_bool_non, isi_bool_bl, isi_bool_int, isi_bool_str, isi_bool_tup, isi_bool_lst, isi_bool_dct, isi_tuple_non, isi_tuple_bl, isi_tuple_int, isi_tuple_str, isi_tuple_tup, isi_tuple_lst, isi_tuple_dct, isi_str_non, isi_str_bl, isi_str_int, isi_str_str, isi_str_tup, isi_str_lst, isi_str_dct, isi_list_non, isi_list_bl, isi_list_int, isi_list_str, isi_list_tup, isi_list_lst, isi_list_dct, isi_dict_non, isi_dict_bl, isi_dict_int, isi_dict_str, isi_dict_tup, isi_dict_lst, isi_dict_dct, hS, at0, at1, at2, ix2, set_at hS]
    have hc : Bt 20 (c + 1) := Bt.of (by omega) (by omega)
    obtain ⟨p, hp, p0, p1⟩ := at5 ((c + 1) % 5) (Int.emod_nonneg _ (by decide)) (Int.emod_lt_of_pos _ (by decide))
    simp only [modB (show (0 : Int) < 5 by decide), hp, small5, bodyFn, endR, padE, zseq, zret, zif, zpass, znext, zexpr, zasg, gset, gtup, gcons, gnil, zpar, setAll, sval, snew, snil, zsetB, zsetItem, celSet, zk, zvar, zop, toB, zand, zor, znot, zite, zchain, zcons, znil, ztup, zlstF, frz, celD, zcb, zcall, backR, zidx, zneg, zisi, zslice, onone, osome, zlenP, zbld, isBld, appendK, extendK, zlistF, listS, bind_ok, thenS_ok, ofO_some, List.getElem?_cons_zero, List.getElem?_cons_succ, List.set_cons_zero, List.set_cons_succ, List.length_cons, List.length_nil, List.map_cons, List.map_nil, List.replicate, List.cons_append, List.nil_append, List.append_nil, Nat.reduceAdd, Nat.reduceSub, Nat.zero_add, if_true, if_false, ite_true, ite_false, reduceIte, Bool.not_true, Bool.not_false, decide_true, decide_false, Bool.false_eq_true, isND, isNotND, addD, subD, cmpI, lenD, absD, intD, tupleD, Option.map_some, Option.bind_some, Option.bind, seqD, zseqI, idxD, isi_int_non, isi_int_bl, isi_int_int, isi_int_str, isi_int_tup, isi_int_lst, isi_int_dct, isi_bool_non, isi_bool_bl, isi_bool_int, isi_bool_str, isi_bool_tup, isi_bool_lst, isi_bool_dct, isi_tuple_non, isi_tuple_bl, isi_tuple_int, isi_tuple_str, isi_tuple_tup, isi_tuple_lst, isi_tuple_dct, isi_str_non, isi_str_bl, isi_str_int, isi_str_str, isi_str_tup, isi_str_lst, isi_str_dct, isi_list_non, isi_list_bl, isi_list_int, isi_list_str, isi_list_tup, isi_list_lst, isi_list_dct, isi_dict_non, isi_dict_bl, isi_dict_int, isi_dict_str, isi_dict_tup, isi_dict_lst, isi_dict_dct, hS, at0, at1, at2, ix2, set_at hS]
    have q1 : Bt 20 (98644 : Int) := Bt.lit (by decide)
    have q2 := q1.mul hc
    have q3 := q2.mul hc
    have q4 := b1.add q3
    have q5 := q4.add (show Bt 20 (149 : Int) from Bt.lit (by decide))
    have w1 : 0 ≤ 98644 * (c + 1) * (c + 1) := Int.mul_nonneg (Int.mul_nonneg (by decide) (by omega)) (by omega)
    simp only [mulB q1 hc (by decide), mulB q2 hc (by decide), bodyFn, endR, padE, zseq, zret, zif, zpass, znext, zexpr, zasg, gset, gtup, gcons, gnil, zpar, setAll, sval, snew, snil, zsetB, zsetItem, celSet, zk, zvar, zop, toB, zand, zor, znot, zite, zchain, zcons, znil, ztup, zlstF, frz, celD, zcb, zcall, backR, zidx, zneg, zisi, zslice, onone, osome, zlenP, zbld, isBld, appendK, extendK, zlistF, listS, bind_ok, thenS_ok, ofO_some, List.getElem?_cons_zero, List.getElem?_cons_succ, List.set_cons_zero, List.set_cons_succ, List.length_cons, List.length_nil, List.map_cons, List.map_nil, List.replicate, List.cons_append, List.nil_append, List.append_nil, Nat.reduceAdd, Nat.reduceSub, Nat.zero_add, if_true, if_false, ite_true, ite_false, reduceIte, Bool.not_true, Bool.not_false, decide_true, decide_false, Bool.false_eq_true, isND, isNotND, addD, subD, cmpI, lenD, absD, intD, tupleD, Option.map_some, Option.bind_some, Option.bind, seqD, zseqI, idxD, isi_int_non, isi_int_bl, isi_int_int, isi_int_str, isi_int_tup, isi_int_lst, isi_int_dct, isi_bool_non, isi_bool_bl, isi_bool_int, isi_bool_str, isi_bool_tup, isi_bool_lst, isi_bool_dct, isi_tuple_non, isi_tuple_bl, isi_tuple_int, isi_tuple_str, isi_tuple_tup, isi_tuple_lst, isi_tuple_dct, isi_str_non, isi_str_bl, isi_str_int, isi_str_str, isi_str_tup, isi_str_lst, isi_str_dct, isi_list_non, isi_list_bl, isi_list_int, isi_list_str, isi_list_tup, isi_list_lst, isi_list_dct, isi_dict_non, isi_dict_bl, isi_dict_int, isi_dict_str, isi_dict_tup, isi_dict_lst, isi_dict_dct, hS, at0, at1, at2, ix2, set_at hS]
    have e3 : powD (.int (b + 98644 * (c + 1) * (c + 1) + 149)) (.int 3) = some (.int ((b + 98644 * (c + 1) * (c + 1) + 149) ^ 3)) := powB 3 q5 (by decide) (by decide)
    have hp2 : Bt 31 p := Bt.of (by omega) p1
    have q6 : Bt 31 ((b + 98644 * (c + 1) * (c + 1) + 149) ^ 3 % p) := Bt.emod p0 hp2
    have q7 : Bt 20 ((b + 98644 * (c + 1) * (c + 1) + 149) ^ 3 % p % 10333) := Bt.emod (by decide) (Bt.lit (by decide))
    have q8 : Bt 20 (211 : Int) := Bt.lit (by decide)
    have q9 := q7.add (q8.mul hc)
    simp only [e3, modB p0, modB (show (0 : Int) < 10333 by decide), mulB q8 hc (by decide), mulB q6 q9 (by decide), modB (show (0 : Int) < 2305843009213693907 by decide), fdivB (show (163 : Int) ≠ 0 by decide) (show Bt 20 163 from Bt.lit (by decide)) (by decide), modB hu, bodyFn, endR, padE, zseq, zret, zif, zpass, znext, zexpr, zasg, gset, gtup, gcons, gnil, zpar, setAll, sval, snew, snil, zsetB, zsetItem, celSet, zk, zvar, zop, toB, zand, zor, znot, zite, zchain, zcons, znil, ztup, zlstF, frz, celD, zcb, zcall, backR, zidx, zneg, zisi, zslice, onone, osome, zlenP, zbld, isBld, appendK, extendK, zlistF, listS, bind_ok, thenS_ok, ofO_some, List.getElem?_cons_zero, List.getElem?_cons_succ, List.set_cons_zero, List.set_cons_succ, List.length_cons, List.length_nil, List.map_cons, List.map_nil, List.replicate, List.cons_append, List.nil_append, List.append_nil, Nat.reduceAdd, Nat.reduceSub, Nat.zero_add, if_true, if_false, ite_true, ite_false, reduceIte, Bool.not_true, Bool.not_false, decide_true, decide_false, Bool.false_eq_true, isND, isNotND, addD, subD, cmpI, lenD, absD, intD, tupleD, Option.map_some, Option.bind_some, Option.bind, seqD, zseqI, idxD, isi_int_non, isi_int_bl, isi_int_int, isi_int_str, isi_int_tup, isi_int_lst, isi_int_dct, isi_bool_non, isi_bool_bl, isi_bool_int, isi_bool_str, isi_bool_tup, isi_bool_lst, isi_bool_dct, isi_tuple_non, isi_tuple_bl, isi_tuple_int, isi_tuple_str, isi_tuple_tup, isi_tuple_lst, isi_tuple_dct, isi_str_non, isi_str_bl, isi_str_int, isi_str_str, isi_str_tup, isi_str_lst, isi_str_dct, isi_list_non, isi_list_bl, isi_list_int, isi_list_str, isi_list_tup, isi_list_lst, isi_list_dct, isi_dict_non, isi_dict_bl, isi_dict_int, isi_dict_str, isi_dict_tup, isi_dict_lst, isi_dict_dct, hS, at0, at1, at2, ix2, set_at hS]
    exact ⟨_, _, rfl, Int.emod_nonneg _ (by omega), Int.emod_lt_of_pos _ hu, ⟨_, _, _, set_at hS, a0, a1, b0, b1, by omega, by omega⟩⟩
theorem e__law_of {S : List (List D)} {n k : Nat} {xs : List D} (h : PotAt S n k) (hk : k < 1000000) (h0 : xs ≠ []) (hl : xs.length < 1000000) : ∃ d S', f__law_of [.cel n, .lst xs] S = .ok d S' ∧ d ∈ xs ∧ PotAt S' n (k + 1) := by
  have h1 : 0 < xs.length := List.length_pos_iff.mpr h0
  obtain ⟨r, S', e, r0, r1, q⟩ := e__law_take (u := (xs.length : Int)) h hk (by omega) (Bt.of (by omega) (by omega))
  simp only [f__law_of, g__law_of, bodyFn, endR, padE, zseq, zret, zif, zpass, znext, zexpr, zasg, gset, gtup, gcons, gnil, zpar, setAll, sval, snew, snil, zsetB, zsetItem, celSet, zk, zvar, zop, toB, zand, zor, znot, zite, zchain, zcons, znil, ztup, zlstF, frz, celD, zcb, zcall, backR, zidx, zneg, zisi, zslice, onone, osome, zlenP, zbld, isBld, appendK, extendK, zlistF, listS, bind_ok, thenS_ok, ofO_some, List.getElem?_cons_zero, List.getElem?_cons_succ, List.set_cons_zero, List.set_cons_succ, List.length_cons, List.length_nil, List.map_cons, List.map_nil, List.replicate, List.cons_append, List.nil_append, List.append_nil, Nat.reduceAdd, Nat.reduceSub, Nat.zero_add, if_true, if_false, ite_true, ite_false, reduceIte, Bool.not_true, Bool.not_false, decide_true, decide_false, Bool.false_eq_true, isND, isNotND, addD, subD, cmpI, lenD, absD, intD, tupleD, Option.map_some, Option.bind_some, Option.bind, seqD, zseqI, idxD, isi_int_non, isi_int_bl, isi_int_int, isi_int_str, isi_int_tup, isi_int_lst, isi_int_dct, isi_bool_non, isi_bool_bl, isi_bool_int, isi_bool_str, isi_bool_tup, isi_bool_lst, isi_bool_dct, isi_tuple_non, isi_tuple_bl, isi_tuple_int, isi_tuple_str, isi_tuple_tup, isi_tuple_lst, isi_tuple_dct, isi_str_non, isi_str_bl, isi_str_int, isi_str_str, isi_str_tup, isi_str_lst, isi_str_dct, isi_list_non, isi_list_bl, isi_list_int, isi_list_str, isi_list_tup, isi_list_lst, isi_list_dct, isi_dict_non, isi_dict_bl, isi_dict_int, isi_dict_str, isi_dict_tup, isi_dict_lst, isi_dict_dct, e, atN r0 (show r.toNat < xs.length by omega)]
  exact ⟨_, _, rfl, List.getElem_mem _, q⟩
theorem e__law_pot (ns : List Int) (i : Nat) (hi : i < 64) (S : List (List D)) : ∃ S', f__law_pot [.scr ns, .int i] S = .ok (.cel S.length) S' ∧ PotAt S' S.length 0 := by
  obtain ⟨x, ex⟩ : ∃ x, (if (i : Int) < ns.length then (atI ns i) else some (481 * (i : Int) + 147)) = some x := by
    by_cases h : (i : Int) < ns.length
    · rw [if_pos h]
      exact ⟨_, atN (by omega) (by omega)⟩
    · rw [if_neg h]
      exact ⟨_, rfl⟩
  have hb : Bt 10 (i : Int) := Bt.of (by omega) (by omega)
  have b1 : Bt 20 (481 : Int) := Bt.lit (by decide)
  have key : ∀ m, zite (zop ltD (zvar 1) (zcb lenD (zcons (zvar 0) znil))) (zidx (zvar 0) (zvar 1)) (zop addD (zop mulZ (zk (.int 481)) (zvar 1)) (zk (.int 147))) ⟨.val (.scr ns) :: .val (.int i) :: m, S⟩ = .ok (.int x) ⟨.val (.scr ns) :: .val (.int i) :: m, S⟩ := by
    intro m
    simp only [bodyFn, endR, padE, zseq, zret, zif, zpass, znext, zexpr, zasg, gset, gtup, gcons, gnil, zpar, setAll, sval, snew, snil, zsetB, zsetItem, celSet, zk, zvar, zop, toB, zand, zor, znot, zite, zchain, zcons, znil, ztup, zlstF, frz, celD, zcb, zcall, backR, zidx, zneg, zisi, zslice, onone, osome, zlenP, zbld, isBld, appendK, extendK, zlistF, listS, bind_ok, thenS_ok, ofO_some, List.getElem?_cons_zero, List.getElem?_cons_succ, List.set_cons_zero, List.set_cons_succ, List.length_cons, List.length_nil, List.map_cons, List.map_nil, List.replicate, List.cons_append, List.nil_append, List.append_nil, Nat.reduceAdd, Nat.reduceSub, Nat.zero_add, if_true, if_false, ite_true, ite_false, reduceIte, Bool.not_true, Bool.not_false, decide_true, decide_false, Bool.false_eq_true, isND, isNotND, addD, subD, cmpI, lenD, absD, intD, tupleD, Option.map_some, Option.bind_some, Option.bind, seqD, zseqI, idxD, isi_int_non, isi_int_bl, isi_int_int, isi_int_str, isi_int_tup, isi_int_lst, isi_int_dct, isi_bool_non, isi_bool_bl, isi_bool_int, isi_bool_str, isi_bool_tup, isi_bool_lst, isi_bool_dct, isi_tuple_non, isi_tuple_bl, isi_tuple_int, isi_tuple_str, isi_tuple_tup, isi_tuple_lst, isi_tuple_dct, isi_str_non, isi_str_bl, isi_str_int, isi_str_str, isi_str_tup, isi_str_lst, isi_str_dct, isi_list_non, isi_list_bl, isi_list_int, isi_list_str, isi_list_tup, isi_list_lst, isi_list_dct, isi_dict_non, isi_dict_bl, isi_dict_int, isi_dict_str, isi_dict_tup, isi_dict_lst, isi_dict_dct]
    by_cases h : (i : Int) < ns.length
    · rw [if_pos h] at ex
      simp only [decide_eq_true h, if_true, bodyFn, endR, padE, zseq, zret, zif, zpass, znext, zexpr, zasg, gset, gtup, gcons, gnil, zpar, setAll, sval, snew, snil, zsetB, zsetItem, celSet, zk, zvar, zop, toB, zand, zor, znot, zite, zchain, zcons, znil, ztup, zlstF, frz, celD, zcb, zcall, backR, zidx, zneg, zisi, zslice, onone, osome, zlenP, zbld, isBld, appendK, extendK, zlistF, listS, bind_ok, thenS_ok, ofO_some, List.getElem?_cons_zero, List.getElem?_cons_succ, List.set_cons_zero, List.set_cons_succ, List.length_cons, List.length_nil, List.map_cons, List.map_nil, List.replicate, List.cons_append, List.nil_append, List.append_nil, Nat.reduceAdd, Nat.reduceSub, Nat.zero_add, if_true, if_false, ite_true, ite_false, reduceIte, Bool.not_true, Bool.not_false, decide_true, decide_false, Bool.false_eq_true, isND, isNotND, addD, subD, cmpI, lenD, absD, intD, tupleD, Option.map_some, Option.bind_some, Option.bind, seqD, zseqI, idxD, isi_int_non, isi_int_bl, isi_int_int, isi_int_str, isi_int_tup, isi_int_lst, isi_int_dct, isi_bool_non, isi_bool_bl, isi_bool_int, isi_bool_str, isi_bool_tup, isi_bool_lst, isi_bool_dct, isi_tuple_non, isi_tuple_bl, isi_tuple_int, isi_tuple_str, isi_tuple_tup, isi_tuple_lst, isi_tuple_dct, isi_str_non, isi_str_bl, isi_str_int, isi_str_str, isi_str_tup, isi_str_lst, isi_str_dct, isi_list_non, isi_list_bl, isi_list_int, isi_list_str, isi_list_tup, isi_list_lst, isi_list_dct, isi_dict_non, isi_dict_bl, isi_dict_int, isi_dict_str, isi_dict_tup, isi_dict_lst, isi_dict_dct, ex]
    · rw [if_neg h] at ex
      simp only [decide_eq_false h, if_false, mulB b1 hb (by decide), bodyFn, endR, padE, zseq, zret, zif, zpass, znext, zexpr, zasg, gset, gtup, gcons, gnil, zpar, setAll, sval, snew, snil, zsetB, zsetItem, celSet, zk, zvar, zop, toB, zand, zor, znot, zite, zchain, zcons, znil, ztup, zlstF, frz, celD, zcb, zcall, backR, zidx, zneg, zisi, zslice, onone, osome, zlenP, zbld, isBld, appendK, extendK, zlistF, listS, bind_ok, thenS_ok, ofO_some, List.getElem?_cons_zero, List.getElem?_cons_succ, List.set_cons_zero, List.set_cons_succ, List.length_cons, List.length_nil, List.map_cons, List.map_nil, List.replicate, List.cons_append, List.nil_append, List.append_nil, Nat.reduceAdd, Nat.reduceSub, Nat.zero_add, if_true, if_false, ite_true, ite_false, reduceIte, Bool.not_true, Bool.not_false, decide_true, decide_false, Bool.false_eq_true, isND, isNotND, addD, subD, cmpI, lenD, absD, intD, tupleD, Option.map_some, Option.bind_some, Option.bind, seqD, zseqI, idxD, isi_int_non, isi_int_bl, isi_int_int, isi_int_str, isi_int_tup, isi_int_lst, isi_int_dct, isi_bool_non, isi_bool_bl, isi_bool_int, isi_bool_str, isi_bool_tup, isi_bool_lst, isi_bool_dct, isi_tuple_non, isi_tuple_bl, isi_tuple_int, isi_tuple_str, isi_tuple_tup, isi_tuple_lst, isi_tuple_dct, isi_str_non, isi_str_bl, isi_str_int, isi_str_str, isi_str_tup, isi_str_lst, isi_str_dct, isi_list_non, isi_list_bl, isi_list_int, isi_list_str, isi_list_tup, isi_list_lst, isi_list_dct, isi_dict_non, isi_dict_bl, isi_dict_int, isi_dict_str, isi_dict_tup, isi_dict_lst, isi_dict_dct]
      cases ex
      simp
  have e1 : powD (.int 10) (.int 60) = some (.int (10 ^ 60)) := powC (by decide)
  have e2 : powD (.int (10 ^ 60)) (.int 5) = some (.int (10 ^ 300)) := powC (by decide +kernel)
  have e3 : powD (.int 10) (.int 18) = some (.int (10 ^ 18)) := powC (by decide)
  have c1 : (0 : Int) < 10 ^ 300 := by decide
  have b2 : Bt 1000 ((x.natAbs : Int) % 10 ^ 300) := Bt.emod c1 (Bt.lit (by decide +kernel))
  have b3 : Bt 61 (x % 2305843009213693951) := Bt.emod (by decide) (Bt.lit (by decide))
  have b4 : Bt 20 (75109 : Int) := Bt.lit (by decide)
  have b5 : Bt 20 (7319 : Int) := Bt.lit (by decide)
  simp only [f__law_pot, g__law_pot, bodyFn, padE, List.length_cons, List.length_nil, if_true, List.map_cons, List.map_nil, List.cons_append, List.nil_append, zseq, zasg, key]
  obtain ⟨y, ey⟩ : ∃ y : Int, y = (if decide ((10 : Int) ^ 18 ≤ (x.natAbs : Int)) = true then 1 else 0) := ⟨_, rfl⟩
  have b6 : Bt 2 y := by
    rw [ey]
    split <;> exact Bt.lit (by decide)
  have y0 : 0 ≤ y ∧ y ≤ 1 := by
    rw [ey]
    split <;> decide
  simp only [absN, e1, e2, e3, modB c1, modB (show (0 : Int) < 2305843009213693951 by decide), modB (show (0 : Int) < 2305843009213693921 by decide), mulB b3 b4 (by decide), mulB b5 hb (by decide), mulB (b5.mul hb) hb (by decide), ← ey, mulB b2 b6 (by decide), small3, bodyFn, endR, padE, zseq, zret, zif, zpass, znext, zexpr, zasg, gset, gtup, gcons, gnil, zpar, setAll, sval, snew, snil, zsetB, zsetItem, celSet, zk, zvar, zop, toB, zand, zor, znot, zite, zchain, zcons, znil, ztup, zlstF, frz, celD, zcb, zcall, backR, zidx, zneg, zisi, zslice, onone, osome, zlenP, zbld, isBld, appendK, extendK, zlistF, listS, bind_ok, thenS_ok, ofO_some, List.getElem?_cons_zero, List.getElem?_cons_succ, List.set_cons_zero, List.set_cons_succ, List.length_cons, List.length_nil, List.map_cons, List.map_nil, List.replicate, List.cons_append, List.nil_append, List.append_nil, Nat.reduceAdd, Nat.reduceSub, Nat.zero_add, if_true, if_false, ite_true, ite_false, reduceIte, Bool.not_true, Bool.not_false, decide_true, decide_false, Bool.false_eq_true, isND, isNotND, addD, subD, cmpI, lenD, absD, intD, tupleD, Option.map_some, Option.bind_some, Option.bind, seqD, zseqI, idxD, isi_int_non, isi_int_bl, isi_int_int, isi_int_str, isi_int_tup, isi_int_lst, isi_int_dct, isi_bool_non, isi_bool_bl, isi_bool_int, isi_bool_str, isi_bool_tup, isi_bool_lst, isi_bool_dct, isi_tuple_non, isi_tuple_bl, isi_tuple_int, isi_tuple_str, isi_tuple_tup, isi_tuple_lst, isi_tuple_dct, isi_str_non, isi_str_bl, isi_str_int, isi_str_str, isi_str_tup, isi_str_lst, isi_str_dct, isi_list_non, isi_list_bl, isi_list_int, isi_list_str, isi_list_tup, isi_list_lst, isi_list_dct, isi_dict_non, isi_dict_bl, isi_dict_int, isi_dict_str, isi_dict_tup, isi_dict_lst, isi_dict_dct]
  refine ⟨_, rfl, ⟨_, _, _, snoc_at, ?_, ?_, Int.emod_nonneg _ (by decide), Bt.emod (by decide) (Bt.lit (by decide)), by decide, by simp⟩⟩
  · exact Int.mul_nonneg (Int.emod_nonneg _ (by decide)) y0.1
  · have : y = 0 ∨ y = 1 := by omega
    rcases this with h | h
    · rw [h, Int.mul_zero]; exact Bt.lit (by decide)
    · rw [h, Int.mul_one]; exact b2
theorem e__law_cells (ns : List Int) (c : Int) (S : List (List D)) (hc : 1 ≤ c ∧ c ≤ 63) (hn : ns.length ≤ 63) : ∃ j : Nat, j ≤ 63 ∧ f__law_cells [.scr ns, .int c] S = .ok (.lst ((List.range j).map fun i => .int (i : Nat))) S := by
  simp only [f__law_cells, g__law_cells, bodyFn, endR, padE, zseq, zret, zif, zpass, znext, zexpr, zasg, gset, gtup, gcons, gnil, zpar, setAll, sval, snew, snil, zsetB, zsetItem, celSet, zk, zvar, zop, toB, zand, zor, znot, zite, zchain, zcons, znil, ztup, zlstF, frz, celD, zcb, zcall, backR, zidx, zneg, zisi, zslice, onone, osome, zlenP, zbld, isBld, appendK, extendK, zlistF, listS, bind_ok, thenS_ok, ofO_some, List.getElem?_cons_zero, List.getElem?_cons_succ, List.set_cons_zero, List.set_cons_succ, List.length_cons, List.length_nil, List.map_cons, List.map_nil, List.replicate, List.cons_append, List.nil_append, List.append_nil, Nat.reduceAdd, Nat.reduceSub, Nat.zero_add, if_true, if_false, ite_true, ite_false, reduceIte, Bool.not_true, Bool.not_false, decide_true, decide_false, Bool.false_eq_true, isND, isNotND, addD, subD, cmpI, lenD, absD, intD, tupleD, Option.map_some, Option.bind_some, Option.bind, seqD, zseqI, idxD, isi_int_non, isi_int_bl, isi_int_int, isi_int_str, isi_int_tup, isi_int_lst, isi_int_dct, isi_bool_non, isi_bool_bl, isi_bool_int, isi_bool_str, isi_bool_tup, isi_bool_lst, isi_bool_dct, isi_tuple_non, isi_tuple_bl, isi_tuple_int, isi_tuple_str, isi_tuple_tup, isi_tuple_lst, isi_tuple_dct, isi_str_non, isi_str_bl, isi_str_int, isi_str_str, isi_str_tup, isi_str_lst, isi_str_dct, isi_list_non, isi_list_bl, isi_list_int, isi_list_str, isi_list_tup, isi_list_lst, isi_list_dct, isi_dict_non, isi_dict_bl, isi_dict_int, isi_dict_str, isi_dict_tup, isi_dict_lst, isi_dict_dct, maxD, minD, zlistRg, rangeF, range2D]
  have h1 : ∃ j : Nat, j ≤ 63 ∧ (if (if (ns.length : Int) < c then (ns.length : Int) else c) > 1 then (if (ns.length : Int) < c then (ns.length : Int) else c) else 1) = (j : Int) := by
    refine ⟨(if (if (ns.length : Int) < c then (ns.length : Int) else c) > 1 then (if (ns.length : Int) < c then (ns.length : Int) else c) else 1).toNat, ?_, ?_⟩ <;> (split <;> split <;> omega)
  obtain ⟨j, hj, e⟩ := h1
  refine ⟨j, hj, ?_⟩
  simp only [e, Int.sub_zero, Int.toNat_natCast, Int.zero_add]
  rw [if_pos (decide_eq_true (by omega))]
  rfl
end Z

set_option Elab.async false
set_option linter.all false
set_option maxRecDepth 100000
set_option maxHeartbeats 2000000
namespace Z
open PySem PySem.Spec PyProof.Rows L2 RZ
/-! draws as rules -/
theorem r_take {S : Sto} {n k : Nat} {u : Int} (h : PotAt S n k) (hk : k < 1000000) (hu : 0 < u) (hb : u < 1000000000) : Res (f__law_take [.cel n, .int u] S) (fun d S' => ∃ r, d = .int r ∧ 0 ≤ r ∧ r < u ∧ PotAt S' n (k + 1)) nE := by
  obtain ⟨r, S', e, h0, h1, h2⟩ := e__law_take h hk hu (Bt.of (by omega) (by omega))
  exact Res.eq e ⟨r, rfl, h0, h1, h2⟩
theorem r_of {S : Sto} {n k : Nat} {xs : List D} (h : PotAt S n k) (hk : k < 1000000) (h0 : xs ≠ []) (hl : xs.length < 1000000) : Res (f__law_of [.cel n, .lst xs] S) (fun d S' => d ∈ xs ∧ PotAt S' n (k + 1)) nE := by
  obtain ⟨d, S', e, h1, h2⟩ := e__law_of h hk h0 hl
  exact Res.eq e ⟨h1, h2⟩
theorem memI {d : D} {is : List Int} (h : d ∈ is.map D.int) : ∃ i ∈ is, d = .int i := by
  obtain ⟨i, h1, h2⟩ := List.mem_map.mp h
  exact ⟨i, h1, h2.symm⟩
end Z

set_option Elab.async false
set_option linter.all false
set_option maxRecDepth 100000
set_option maxHeartbeats 4000000
/-! N3: the law's draws of names, ties -/
namespace Z
open PySem PySem.Spec PyProof.Rows L2 RZ TL
local macro_rules
  | `(tactic| done) => `(tactic| (first | ((with_reducible refine wseq ?_); try dsimp only [List.set_cons_zero, List.set_cons_succ, setAll, padE, hide, hideE, backE, List.getD, List.getElem?_cons_zero, List.getElem?_cons_succ, Option.getD_some, List.map_cons, List.map_nil, List.length_cons, List.length_nil, List.replicate, List.cons_append, List.nil_append, List.append_nil, Nat.reduceAdd, Nat.reduceSub]) | ((with_reducible refine wseqN ?_); try dsimp only [List.set_cons_zero, List.set_cons_succ, setAll, padE, hide, hideE, backE, List.getD, List.getElem?_cons_zero, List.getElem?_cons_succ, Option.getD_some, List.map_cons, List.map_nil, List.length_cons, List.length_nil, List.replicate, List.cons_append, List.nil_append, List.append_nil, Nat.reduceAdd, Nat.reduceSub]) | with_reducible refine wvar (by with_unfolding_all exact rfl) ?_ | with_reducible refine wnext ?_ | with_reducible refine wpass ?_ | with_reducible refine wret ?_ | with_reducible refine wif ?_ | with_reducible refine wexpr ?_ | with_reducible refine wset ?_ | with_reducible refine wsetB ?_ | with_reducible refine wpar ?_ | with_reducible refine wsnil ?_ | with_reducible refine wsval ?_ | with_reducible refine wsnew ?_ | with_reducible refine wsetItem ?_ | with_reducible refine wraise ?_ | with_reducible refine wfor ?_ | with_reducible refine wk ?_ | with_reducible refine wop ?_ | with_reducible refine wtand ?_ | with_reducible refine wtor ?_ | with_reducible refine wtnot ?_ | with_reducible refine wtoB ?_ | with_reducible refine wand ?_ | with_reducible refine wor ?_ | with_reducible refine wnot ?_ | with_reducible refine wite ?_ | with_reducible refine wchain ?_ | with_reducible refine wnil ?_ | with_reducible refine wcons ?_ | with_reducible refine wtup ?_ | with_reducible refine wlst ?_ | with_reducible refine wfrz ?_ | with_reducible refine wcel ?_ | with_reducible refine wcb ?_ | with_reducible refine wcall0 ?_ | with_reducible refine wcall ?_ | with_reducible refine widx ?_ | with_reducible refine wneg ?_ | with_reducible refine wisi ?_ | with_reducible refine wisc ?_ | with_reducible refine wval ?_ | with_reducible refine wmk ?_ | with_reducible refine wrev ?_ | with_reducible refine wup ?_ | with_reducible refine wenum ?_ | with_reducible refine wonone ?_ | with_reducible refine wosome ?_ | with_reducible refine wslice ?_ | with_reducible refine wlistF ?_ | with_reducible refine wlistRg ?_ | with_reducible refine wrange ?_ | with_reducible refine wseqI ?_ | with_reducible refine wzip ?_ | with_reducible refine wdct ?_ | with_reducible refine wdctB ?_ | with_reducible refine wdct0 ?_ | with_reducible refine wsetD ?_ | with_reducible refine wsnewD ?_ | with_reducible refine wcallF ?_ | with_reducible refine wputK ?_ | with_reducible refine windex ?_ | with_reducible refine wstarI ?_ | with_reducible refine wheard ?_ | with_reducible refine wyes ?_ | with_reducible refine wcomp ?_ | with_reducible refine wsplit ?_ | with_reducible refine wjoin ?_ | with_reducible refine wlenSet ?_ | with_reducible refine wfldO ?_ | with_reducible refine wprop ?_ | with_reducible refine wmeth ?_ | with_reducible refine winB ?_ | with_reducible refine wninB ?_ | with_reducible refine wlenO ?_ | with_reducible refine winO ?_ | with_reducible refine weqO ?_ | with_reducible refine wiso ?_ | with_reducible refine wstar ?_ | with_reducible refine wfld1 ?_ | with_reducible refine wasg ?_ | with_reducible refine wlenB (by with_unfolding_all exact rfl) ?_ | with_reducible refine wlenV (by with_unfolding_all exact rfl) ?_ | with_reducible refine wvarB (by with_unfolding_all exact rfl) ?_ | with_reducible refine wvarX (by with_unfolding_all exact rfl) ?_ | with_reducible refine wvarXB (by with_unfolding_all exact rfl) (by with_unfolding_all exact rfl) ?_ | with_reducible refine wupd (by with_unfolding_all exact rfl) ?_ | with_reducible refine wbld (by with_unfolding_all exact rfl) ?_ | with_reducible refine wblk (by with_unfolding_all exact rfl) ?_ | with_reducible refine wmade (by with_unfolding_all exact rfl) ?_ | with_reducible refine exB ?_ | with_reducible refine exI ?_ | with_reducible refine exS ?_ | with_reducible refine exO ?_ | with_reducible refine exG (by with_unfolding_all exact rfl) ?_ | ((with_reducible apply exM); exact rfl) | (with_reducible refine ⟨fun _ => ?_, b_tf⟩) | (with_reducible refine ⟨b_ft, fun _ => ?_⟩) | (with_reducible refine ⟨b_nt, fun _ => ?_⟩) | (with_reducible refine ⟨fun _ => ?_, b_nf⟩) | ((with_reducible apply exC); (simp only [List.map_cons, addD, subD, cmpI, isND, isNotND, lenD, absD, intD, tupleD, maxD, minD, listS, revD, enumS, seqD, zipS, zipD, ixS, idxD, at0, at1, at2, eqI, neI, eqBl, neBl, beq_self_eq_true, Bool.not_true, Bool.not_false, eqS, neS, eqL0, neL0, eqT0, neT0, List.isEmpty_cons, List.isEmpty_nil, iscD, valD, istOf, List.getD_cons_zero, List.getD_cons_succ, List.length_cons, List.length_nil, appendK, sliceD, Option.map_some, Option.bind_some, isi_int_non, isi_int_bl, isi_int_int, isi_int_str, isi_int_tup, isi_int_lst, isi_int_dct, isi_bool_non, isi_bool_bl, isi_bool_int, isi_bool_str, isi_bool_tup, isi_bool_lst, isi_bool_dct, isi_tuple_non, isi_tuple_bl, isi_tuple_int, isi_tuple_str, isi_tuple_tup, isi_tuple_lst, isi_tuple_dct, isi_str_non, isi_str_bl, isi_str_int, isi_str_str, isi_str_tup, isi_str_lst, isi_str_dct, isi_list_non, isi_list_bl, isi_list_int, isi_list_str, isi_list_tup, isi_list_lst, isi_list_dct, isi_dict_non, isi_dict_bl, isi_dict_int, isi_dict_str, isi_dict_tup, isi_dict_lst, isi_dict_dct]; exact rfl)) | (refine ⟨(by rfl : small _ = true), ?_⟩) | (refine ⟨(by rfl : rhsO _ _ = true), ?_⟩) | (refine ⟨(by rfl : List.length _ = List.length _), ?_⟩)))

theorem erase_perm {α : Type} : ∀ (l : List α) (i : Nat) (h : i < l.length), (l[i] :: l.eraseIdx i).Perm l
  | a :: l, 0, _ => .refl _
  | a :: l, i + 1, h => by
    have ih := erase_perm l i (by simpa using h)
    simp only [List.getElem_cons_succ, List.eraseIdx_cons_succ]
    exact (List.Perm.swap _ _ _).trans (.cons _ ih)
theorem r_some {S : Sto} {p k many : Nat} {xs : List D} (h : PotAt S p k) (hk : k + many < 1000000) (hm : many ≤ xs.length) (hx : xs.length < 100000) : Res (f__law_some [.cel p, .lst xs, .int many] S) (fun d S' => ∃ ys rest, d = .lst ys ∧ (ys ++ rest).Perm xs ∧ ys.length = many ∧ PotAt S' p (k + many)) nE := by
  refine wbody rfl ?_
  unfold g__law_some
  repeat' (first | done | fail)
  refine ⟨_, range_ok (by omega), ?_⟩
  refine wforL (I := fun rest m => ∃ (ys zs : List D) (S' : Sto) (e3 : Sl), m = ⟨[.val (.cel p), .val (.lst xs), .val (.int many), e3, .bld zs, .bld ys], S'⟩ ∧ ys.length + rest.length = many ∧ (ys ++ zs).Perm xs ∧ PotAt S' p (k + ys.length)) ?_ ?_ _ _ ⟨[], xs, S, .un, rfl, by simp, .refl _, h⟩
  · rintro d ds m ⟨ys, zs, S', e3, rfl, hl, hp, hq⟩
    have hz : ys.length + zs.length = xs.length := by rw [← hp.length_eq, List.length_append]
    rw [List.length_cons] at hl
    refine ⟨_, rfl, ?_⟩
    repeat' (first | done | fail)
    refine (r_take hq (by omega) (by omega) (by omega)).use ?_
    rintro _ S2 ⟨r, rfl, r0, r1, hq2⟩
    have hr : r.toNat < zs.length := by omega
    refine wnil ⟨zs, zs[r.toNat], zs.eraseIdx r.toNat, rfl, ?_, wnil ⟨ys, .non, ys ++ [zs[r.toNat]], rfl, ?_, ?_⟩⟩
    · show (if decide (0 ≤ r ∧ r < 1000000) = true then _ else _) = _
      rw [if_pos (decide_eq_true ⟨r0, by omega⟩), List.getElem?_eq_getElem hr]
      rfl
    · show (if small ys.length = true then _ else _) = _
      rw [if_pos (smL (by omega))]
    · repeat' (first | done | fail)
      refine ⟨ys ++ [zs[r.toNat]], zs.eraseIdx r.toNat, S2, .val d, rfl, by simp; omega, ?_, by rw [List.length_append]; exact hq2⟩
      refine .trans ?_ hp
      rw [List.append_assoc, List.singleton_append]
      exact List.Perm.append_left _ (erase_perm _ _ hr)
  · rintro m ⟨ys, zs, S', e3, rfl, hl, hp, hq⟩
    repeat' (first | done | fail)
    refine ⟨ys, zs, rfl, hp, by simpa using hl, ?_⟩
    rw [show many = ys.length by simpa using hl.symm]
    exact hq
abbrev poolN : List Str := ["a", "b", "c", "d", "m", "places", "tie", "read", "watch", "survey", "zzzzzzzz", "cost", "told", "undo"]
theorem pool_ok : ∀ w ∈ poolN, okName w = true := by decide +kernel
theorem pool_nd : poolN.Nodup := by decide +kernel
def unS : D → Str
  | .str x => x
  | _ => Str.empty
theorem str_perm {l : List Str} {ys rest : List D} (h : (ys ++ rest).Perm (l.map .str)) : ∃ a b : List Str, ys = a.map .str ∧ rest = b.map .str ∧ (a ++ b).Perm l := by
  have key : ∀ (zs : List D), (∀ z ∈ zs, z ∈ l.map D.str) → ∃ a : List Str, zs = a.map .str := by
    intro zs
    induction zs with
    | nil => intro _; exact ⟨[], rfl⟩
    | cons z zs ih =>
      intro hz
      obtain ⟨a, ha⟩ := ih fun x hx => hz x (List.mem_cons_of_mem _ hx)
      obtain ⟨x, _, hx⟩ := List.mem_map.mp (hz z (List.mem_cons_self ..))
      exact ⟨x :: a, by rw [ha, ← hx]; rfl⟩
  obtain ⟨a, ha⟩ := key ys fun z hz => h.subset (List.mem_append_left _ hz)
  obtain ⟨b, hb⟩ := key rest fun z hz => h.subset (List.mem_append_right _ hz)
  refine ⟨a, b, ha, hb, ?_⟩
  rw [ha, hb, ← List.map_append] at h
  have h2 := h.map unS
  rw [List.map_map, List.map_map, show unS ∘ D.str = id from rfl, List.map_id, List.map_id] at h2
  exact h2
theorem r_names {S : Sto} {p k many : Nat} (h : PotAt S p k) (hk : k + many < 1000000) (hm : many ≤ 14) : Res (f__law_names [.cel p, .int many] S) (fun d S' => ∃ ns : List Str, d = lx ns ∧ ns.length = many ∧ ns.Nodup ∧ (∀ n ∈ ns, n ∈ poolN) ∧ PotAt S' p (k + many)) nE := by
  refine wbody rfl ?_
  unfold g__law_names
  repeat' (first | done | fail)
  refine (r_some h hk (xs := poolN.map .str) (by simpa using hm) (by decide)).use ?_
  rintro _ S2 ⟨ys, rest, rfl, h1, h2, h3⟩
  obtain ⟨a, b, rfl, rfl, h4⟩ := str_perm h1
  have hn := h4.nodup_iff.mpr pool_nd
  exact ⟨a, rfl, by simpa using h2, (List.nodup_append.mp hn).1, fun n hn => h4.subset (List.mem_append_left _ hn), h3⟩
/-- all pairs, the one ahead -/
def pairsL : List Str → List (List Str)
  | [] => []
  | a :: ps => ps.map (fun b => [a, b]) ++ pairsL ps
theorem pairs_len : ∀ ps : List Str, (pairsL ps).length ≤ ps.length * ps.length
  | [] => Nat.le_refl _
  | a :: ps => by
    have := pairs_len ps
    simp only [pairsL, List.length_append, List.length_map, List.length_cons]
    have h2 : (ps.length + 1) * (ps.length + 1) = ps.length * ps.length + 2 * ps.length + 1 := by
      rw [Nat.add_mul, Nat.mul_add]; omega
    omega
theorem pairs_sub : ∀ {ps : List Str} {t : List Str}, t ∈ pairsL ps → t.length = 2 ∧ t.Sublist ps
  | [], t, h => by cases h
  | a :: ps, t, h => by
    rcases List.mem_append.mp h with h | h
    · obtain ⟨b, hb, rfl⟩ := List.mem_map.mp h
      exact ⟨rfl, (List.singleton_sublist.mpr hb).cons_cons a⟩
    · have := pairs_sub h
      exact ⟨this.1, this.2.cons a⟩
theorem pairs_nd : ∀ {ps : List Str}, ps.Nodup → (pairsL ps).Nodup
  | [], _ => List.nodup_nil
  | a :: ps, h => by
    have h' := List.nodup_cons.mp h
    rw [pairsL, List.nodup_append]
    refine ⟨?_, pairs_nd h'.2, fun x hx y hy e => ?_⟩
    · rw [List.Nodup, List.pairwise_map]
      exact h'.2.imp fun hab e => hab (by simpa using e)
    · obtain ⟨b, hb, rfl⟩ := List.mem_map.mp hx
      subst e
      exact h'.1 ((pairs_sub hy).2.subset (by simp))
theorem e__law_pairs {ps : List Str} (S : Sto) (hl : ps.length ≤ 100) : f__law_pairs [lx ps] S = .ok (.lst ((pairsL ps).map tx)) S := by
  refine Res.is (wbody rfl ?_)
  unfold g__law_pairs
  repeat' (first | done | fail)
  rw [enumD_F]
  refine wforL (I := fun rest m => ∃ (n : Nat) (don : List (List Str)) (e2 e3 : Sl), m = ⟨[.val (lx ps), .bld (don.map tx), e2, e3, .un], S⟩ ∧ rest = enumF n ((ps.drop n).map .str) ∧ don ++ pairsL (ps.drop n) = pairsL ps) ?_ ?_ _ _ ⟨0, [], .un, .un, rfl, rfl, rfl⟩
  · rintro d ds m ⟨n, don, e2, e3, rfl, hr, hd⟩
    cases eq : ps.drop n with
    | nil => rw [eq] at hr; cases hr
    | cons a qs =>
      rw [eq] at hr hd
      simp only [List.map_cons, enumF, List.cons.injEq] at hr
      obtain ⟨rfl, rfl⟩ := hr
      have hn : n < ps.length := by
        have := congrArg List.length eq
        rw [List.length_drop, List.length_cons] at this
        omega
      have eq2 : ps.drop (n + 1) = qs := by rw [← List.drop_drop, eq]; rfl
      refine ⟨_, rfl, ?_⟩
      repeat' (first | done | fail)
      have ec : cutL (List.map D.str ps) (some ((n : Int) + 1)) none = qs.map D.str := by
        rw [show (n : Int) + 1 = ((n + 1 : Nat) : Int) from rfl, cut_drop, ← List.map_drop, eq2]
      rw [ec]
      have hq : qs.length ≤ 100 := by rw [← eq2, List.length_drop]; omega
      refine ⟨smL (by simp; omega), rfl, ?_⟩
      refine wcompM (inj := D.str) (P := fun _ => true) (F := fun b => tx [a, b]) qs (fun b hb => ⟨_, rfl, ?_⟩) ?_
      · repeat' (first | done | fail)
        refine ⟨rfl, fun _ => ?_, fun h => nomatch h⟩
        repeat' (first | done | fail)
        exact ⟨rfl, rfl⟩
      · rw [filter_yes]
        have hlen : don.length ≤ 10000 := by
          have h1 := pairs_len ps
          have h2 := congrArg List.length hd
          rw [List.length_append] at h2
          have h3 : ps.length * ps.length ≤ 100 * 100 := Nat.mul_le_mul hl hl
          omega
        refine wnil ⟨don.map tx, .non, (don ++ qs.map fun b => [a, b]).map tx, rfl, ?_, ?_⟩
        · show (if small _ = true then _ else _) = _
          rw [if_pos (smL (by simp; omega)), List.map_append, List.map_map]
          rfl
        · repeat' (first | done | fail)
          refine ⟨n + 1, _, _, _, rfl, by rw [eq2], ?_⟩
          rw [eq2, List.append_assoc]
          exact hd
  · rintro m ⟨n, don, e2, e3, rfl, hr, hd⟩
    cases eq : ps.drop n with
    | cons a qs => rw [eq] at hr; cases hr
    | nil =>
      rw [eq] at hd
      simp only [pairsL, List.append_nil] at hd
      subst hd
      repeat' (first | done | fail)
      exact ⟨rfl, rfl⟩
end Z

set_option Elab.async false
set_option linter.all false
set_option maxRecDepth 100000
set_option maxHeartbeats 4000000
/-! N4: operations on lists of texts, as the laws use them -/
namespace Z
open PySem PySem.Spec PyProof.Rows L2 RZ TL
abbrev gx (l : List Str) (k : Nat) : Str := l.getD k Str.empty
theorem sl_to {l : List Str} {v : Int} (h : 0 ≤ v) : sliceD (lx l) none (some v) = some (lx (l.take v.toNat)) := by
  obtain ⟨n, rfl⟩ := Int.eq_ofNat_of_zero_le h
  show some (D.lst (cutL (l.map .str) none (some (n : Int)))) = _
  rw [cut_take, ← List.map_take]
  rfl
theorem sl_from {l : List Str} {v : Int} (h : 0 ≤ v) : sliceD (lx l) (some v) none = some (lx (l.drop v.toNat)) := by
  obtain ⟨n, rfl⟩ := Int.eq_ofNat_of_zero_le h
  show some (D.lst (cutL (l.map .str) (some (n : Int)) none)) = _
  rw [cut_drop, ← List.map_drop]
  rfl
theorem ix_lx {S : Sto} {l : List Str} {v : Int} (h : 0 ≤ v) (h2 : v.toNat < l.length) : ixS S (lx l) (.int v) = some (.str (gx l v.toNat)) := by
  show atI (l.map D.str) v = _
  rw [atN h (show v.toNat < (l.map D.str).length by simpa using h2), List.getElem_map]
  congr 2
  unfold gx
  rw [List.getD_eq_getElem?_getD, List.getElem?_eq_getElem h2]
  rfl
theorem add_lx {a b : List Str} (h : a.length + b.length ≤ 100000) : addD (lx a) (lx b) = some (lx (a ++ b)) := by
  show (if small _ = true then _ else _) = _
  rw [if_pos (smL (by simpa using h)), ← List.map_append]
theorem add1_lx {x : Str} {l : List Str} (h : l.length ≤ 10000) : addD (.lst [.str x]) (lx l) = some (lx (x :: l)) := add_lx (a := [x]) (by simp; omega)
theorem add2_lx {x y : Str} {l : List Str} (h : l.length ≤ 10000) : addD (.lst [.str x, .str y]) (lx l) = some (lx (x :: y :: l)) := add_lx (a := [x, y]) (by simp; omega)
theorem addR1_lx {x : Str} {l : List Str} (h : l.length ≤ 10000) : addD (lx l) (.lst [.str x]) = some (lx (l ++ [x])) := add_lx (b := [x]) (by simp; omega)
theorem addR2_lx {x y : Str} {l : List Str} (h : l.length ≤ 10000) : addD (lx l) (.lst [.str x, .str y]) = some (lx (l ++ [x, y])) := add_lx (b := [x, y]) (by simp; omega)
theorem add21 {x y z : Str} : addD (.lst [.str x, .str y]) (.lst [.str z]) = some (lx [x, y, z]) := rfl
theorem add11 {x y : Str} : addD (.lst [.str x]) (.lst [.str y]) = some (lx [x, y]) := rfl
theorem jn_lx {l : List Str} {a k : Nat} (h1 : ∀ w ∈ l, w.length ≤ a) (h2 : l.length ≤ k) (h3 : k * (a + 1) ≤ 100000) : joinD " " (lx l) = some (.str (lineOf l)) := by
  refine joinDL ?_
  have e : (" " : Str).length = 1 := by decide
  rw [e]
  unfold lenJ
  have : ∀ (l : List Str), (∀ w ∈ l, w.length ≤ a) → (l.map (·.length)).sum ≤ l.length * a := by
    intro l
    induction l with
    | nil => intro _; simp
    | cons x l ih =>
      intro h
      have h1 := h x (List.mem_cons_self ..)
      have h2 := ih fun w hw => h w (List.mem_cons_of_mem _ hw)
      simp only [List.map_cons, List.sum_cons, List.length_cons, Nat.succ_mul]
      omega
  have h4 := this l h1
  have h5 : l.length * (a + 1) ≤ k * (a + 1) := Nat.mul_le_mul_right _ h2
  rw [Nat.mul_add, Nat.mul_one] at h5
  omega
theorem jf_lx {l : List Str} {a k : Nat} (h1 : ∀ w ∈ l, w.length ≤ a) (h2 : l.length ≤ k) (h3 : k * (a + 1) ≤ 100000) : joinD "\n" (lx l) = some (.str (Txt.join "\n" l)) := by
  refine joinDL ?_
  have e : ("\n" : Str).length = 1 := by decide
  rw [e]
  unfold lenJ
  have : ∀ (l : List Str), (∀ w ∈ l, w.length ≤ a) → (l.map (·.length)).sum ≤ l.length * a := by
    intro l
    induction l with
    | nil => intro _; simp
    | cons x l ih =>
      intro h
      have h1 := h x (List.mem_cons_self ..)
      have h2 := ih fun w hw => h w (List.mem_cons_of_mem _ hw)
      simp only [List.map_cons, List.sum_cons, List.length_cons, Nat.succ_mul]
      omega
  have h4 := this l h1
  have h5 : l.length * (a + 1) ≤ k * (a + 1) := Nat.mul_le_mul_right _ h2
  rw [Nat.mul_add, Nat.mul_one] at h5
  omega
theorem adS {a b : Str} (h : a.length + b.length ≤ 100000) : addD (.str a) (.str b) = some (.str (a ++ b)) := by
  show (if small _ = true then _ else _) = _
  rw [if_pos (smL h)]
theorem len_app (a b : Str) : (a ++ b).length = a.length + b.length := by
  rw [len_tl, len_tl, len_tl, tl_append, List.length_append]
theorem tie_line (a b : Str) : ("tie " : Str) ++ a ++ (" " : Str) ++ b = lineOf ["tie", a, b] := by
  apply ext_tl
  unfold lineOf
  rw [join_eq, tl_join, tl_append, tl_append, tl_append]
  have e1 : tl ("tie " : Str) = tl ("tie" : Str) ++ tl (" " : Str) := by decide
  rw [e1]
  simp only [List.map_cons, List.map_nil, joinL, List.append_assoc]
theorem line_snoc {l : List Str} (h : l ≠ []) (x : Str) : lineOf l ++ (" " : Str) ++ x = lineOf (l ++ [x]) := by
  apply ext_tl
  unfold lineOf
  rw [tl_append, tl_append, join_eq, join_eq, tl_join, tl_join]
  have : ∀ (S : List Nat) (L : List (List Nat)), L ≠ [] → ∀ y, joinL S L ++ S ++ y = joinL S (L ++ [y]) := by
    intro S L
    induction L with
    | nil => intro h; exact absurd rfl h
    | cons p L ih =>
      intro _ y
      cases L with
      | nil => simp [joinL]
      | cons q r =>
        have := ih (by simp) y
        simp only [List.cons_append, joinL, List.append_assoc] at this ⊢
        rw [this]
  rw [this _ _ (by simpa using h), List.map_append]
  rfl
section
variable {m : M} {f g : Den} {Q : D → M → Prop} {E : Nat → D → M → Prop}
theorem w_tie (q : RE (f m) (fun d m1 => ∃ a, d = .str a ∧ a.length ≤ 50 ∧ RE (g m1) (fun e m2 => ∃ b, e = .str b ∧ b.length ≤ 50 ∧ Q (.str (lineOf ["tie", a, b])) m2) E) E) : RE (zop addD (zop addD (zop addD (zk (.str "tie ")) f) (zk (.str " "))) g m) Q E := by
  have e4 : ("tie " : Str).length = 4 := by decide
  have e1 : (" " : Str).length = 1 := by decide
  refine wop (wop (wop (wk (q.mono (fun d m1 ⟨a, e, h, q⟩ => ?_) fun _ _ _ q => q))))
  subst e
  refine ⟨_, adS (by rw [e4]; omega), wk ⟨_, adS (by rw [len_app, e4, e1]; omega), q.mono (fun e m2 ⟨b, e, h2, q⟩ => ?_) fun _ _ _ q => q⟩⟩
  subst e
  refine ⟨_, adS (by rw [len_app, len_app, e4, e1]; omega), ?_⟩
  rw [tie_line]
  exact q
theorem exT {x : Str} {P : Str → Prop} (h : x.length ≤ 50) (q : P x) : ∃ a, D.str x = .str a ∧ a.length ≤ 50 ∧ P a := ⟨x, rfl, h, q⟩
theorem exExt {o : Option Sl} {xs es : List D} {Q : D → List D → Prop} (h : o = some (.bld xs)) (hs : small (xs.length + es.length) = true) (q : Q .non (xs ++ es)) : ∃ ys d zs, o = some (.bld ys) ∧ extendK ys [.lst es] = some (d, zs) ∧ Q d zs :=
  ⟨xs, .non, xs ++ es, h, by show (if _ then _ else _) = _; rw [if_pos hs], q⟩
theorem exApp {o : Option Sl} {xs : List D} {e : D} {Q : D → List D → Prop} (h : o = some (.bld xs)) (hs : small xs.length = true) (q : Q .non (xs ++ [e])) : ∃ ys d zs, o = some (.bld ys) ∧ appendK ys [e] = some (d, zs) ∧ Q d zs :=
  ⟨xs, .non, xs ++ [e], h, by show (if _ then _ else _) = _; rw [if_pos hs], q⟩
end
/-- two branches come together -/
theorem wjoin2 {b : Bool} {sf sg : DenS} {m1 m2 : M} {N : M → Prop} {T : D → M → Prop} {E : Nat → D → M → Prop} (I : M → Prop) (h1 : b = true → RT (sf m1) I T E) (h2 : b = false → RT (sg m2) I T E) (h3 : ∀ m, I m → N m) : (b = true → RT (sf m1) N T E) ∧ (b = false → RT (sg m2) N T E) :=
  ⟨fun h => (h1 h).mono h3 (fun _ _ q => q) fun _ _ _ q => q, fun h => (h2 h).mono h3 (fun _ _ q => q) fun _ _ _ q => q⟩
theorem wjoinE {b : Bool} {f g : Den} {m1 m2 : M} {Q : D → M → Prop} {E : Nat → D → M → Prop} (I : D → M → Prop) (h1 : b = true → RE (f m1) I E) (h2 : b = false → RE (g m2) I E) (h3 : ∀ d m, I d m → Q d m) : (b = true → RE (f m1) Q E) ∧ (b = false → RE (g m2) Q E) :=
  ⟨fun h => (h1 h).mono h3 fun _ _ _ q => q, fun h => (h2 h).mono h3 fun _ _ _ q => q⟩
theorem wcompM2 {α : Type} {f : Den} {t : Tg} {c : M → R Bool} {own : List Nat} {P : α → Bool} {F inj : α → D} {m0 : M} {QL : List D → M → Prop} {E' : Nat → D → M → Prop} {ds : List D} (xs : List α) (hx : ds = xs.map inj)
    (hs : ∀ x ∈ xs, ∃ m1, t (inj x) m0 = some m1 ∧ RE (c m1) (fun b m2 => b = P x ∧ (b = true → RE (f m2) (fun y m3 => y = F x ∧ hide own m3 = m0) fun _ _ _ => False) ∧ (b = false → hide own m2 = m0)) fun _ _ _ => False)
    (q : QL ((xs.filter P).map F) m0) : RE (compL t c f own ds [] m0) QL E' := by
  subst hx
  exact wcompM xs hs q
end Z

set_option Elab.async false
set_option linter.all false
set_option maxRecDepth 100000
set_option maxHeartbeats 4000000
/-! N5: drawn nets -/
namespace Z
open PySem PySem.Spec PyProof.Rows L2 RZ TL
local macro_rules
  | `(tactic| done) => `(tactic| (first | ((with_reducible refine wseq ?_); try dsimp only [List.set_cons_zero, List.set_cons_succ, setAll, padE, hide, hideE, backE, List.getD, List.getElem?_cons_zero, List.getElem?_cons_succ, Option.getD_some, List.map_cons, List.map_nil, List.length_cons, List.length_nil, List.replicate, List.cons_append, List.nil_append, List.append_nil, Nat.reduceAdd, Nat.reduceSub]) | ((with_reducible refine wseqN ?_); try dsimp only [List.set_cons_zero, List.set_cons_succ, setAll, padE, hide, hideE, backE, List.getD, List.getElem?_cons_zero, List.getElem?_cons_succ, Option.getD_some, List.map_cons, List.map_nil, List.length_cons, List.length_nil, List.replicate, List.cons_append, List.nil_append, List.append_nil, Nat.reduceAdd, Nat.reduceSub]) | with_reducible refine wvar (by with_unfolding_all exact rfl) ?_ | with_reducible refine wnext ?_ | with_reducible refine wpass ?_ | with_reducible refine wret ?_ | with_reducible refine wif ?_ | with_reducible refine wexpr ?_ | with_reducible refine wset ?_ | with_reducible refine wsetB ?_ | with_reducible refine wpar ?_ | with_reducible refine wsnil ?_ | with_reducible refine wsval ?_ | with_reducible refine wsnew ?_ | with_reducible refine wsetItem ?_ | with_reducible refine wraise ?_ | with_reducible refine wfor ?_ | with_reducible refine wk ?_ | with_reducible refine wop ?_ | with_reducible refine wtand ?_ | with_reducible refine wtor ?_ | with_reducible refine wtnot ?_ | with_reducible refine wtoB ?_ | with_reducible refine wand ?_ | with_reducible refine wor ?_ | with_reducible refine wnot ?_ | with_reducible refine wite ?_ | with_reducible refine wchain ?_ | with_reducible refine wnil ?_ | with_reducible refine wcons ?_ | with_reducible refine wtup ?_ | with_reducible refine wlst ?_ | with_reducible refine wfrz ?_ | with_reducible refine wcel ?_ | with_reducible refine wcb ?_ | with_reducible refine wcall0 ?_ | with_reducible refine wcall ?_ | with_reducible refine widx ?_ | with_reducible refine wneg ?_ | with_reducible refine wisi ?_ | with_reducible refine wisc ?_ | with_reducible refine wval ?_ | with_reducible refine wmk ?_ | with_reducible refine wrev ?_ | with_reducible refine wup ?_ | with_reducible refine wenum ?_ | with_reducible refine wonone ?_ | with_reducible refine wosome ?_ | with_reducible refine wslice ?_ | with_reducible refine wlistF ?_ | with_reducible refine wlistRg ?_ | with_reducible refine wrange ?_ | with_reducible refine wseqI ?_ | with_reducible refine wzip ?_ | with_reducible refine wdct ?_ | with_reducible refine wdctB ?_ | with_reducible refine wdct0 ?_ | with_reducible refine wsetD ?_ | with_reducible refine wsnewD ?_ | with_reducible refine wcallF ?_ | with_reducible refine wputK ?_ | with_reducible refine windex ?_ | with_reducible refine wstarI ?_ | with_reducible refine wheard ?_ | with_reducible refine wyes ?_ | with_reducible refine wcomp ?_ | with_reducible refine wsplit ?_ | with_reducible refine wjoin ?_ | with_reducible refine wlenSet ?_ | with_reducible refine wfldO ?_ | with_reducible refine wprop ?_ | with_reducible refine wmeth ?_ | with_reducible refine winB ?_ | with_reducible refine wninB ?_ | with_reducible refine wlenO ?_ | with_reducible refine winO ?_ | with_reducible refine weqO ?_ | with_reducible refine wiso ?_ | with_reducible refine wstar ?_ | with_reducible refine wfld1 ?_ | with_reducible refine wasg ?_ | with_reducible refine wlenB (by with_unfolding_all exact rfl) ?_ | with_reducible refine wlenV (by with_unfolding_all exact rfl) ?_ | with_reducible refine wvarB (by with_unfolding_all exact rfl) ?_ | with_reducible refine wvarX (by with_unfolding_all exact rfl) ?_ | with_reducible refine wvarXB (by with_unfolding_all exact rfl) (by with_unfolding_all exact rfl) ?_ | with_reducible refine wupd (by with_unfolding_all exact rfl) ?_ | with_reducible refine wbld (by with_unfolding_all exact rfl) ?_ | with_reducible refine wblk (by with_unfolding_all exact rfl) ?_ | with_reducible refine wmade (by with_unfolding_all exact rfl) ?_ | with_reducible refine exB ?_ | with_reducible refine exI ?_ | with_reducible refine exS ?_ | with_reducible refine exO ?_ | with_reducible refine exG (by with_unfolding_all exact rfl) ?_ | ((with_reducible apply exM); exact rfl) | (with_reducible refine ⟨fun _ => ?_, b_tf⟩) | (with_reducible refine ⟨b_ft, fun _ => ?_⟩) | (with_reducible refine ⟨b_nt, fun _ => ?_⟩) | (with_reducible refine ⟨fun _ => ?_, b_nf⟩) | ((with_reducible apply exC); (simp only [List.map_cons, addD, subD, cmpI, isND, isNotND, lenD, absD, intD, tupleD, maxD, minD, listS, revD, enumS, seqD, zipS, zipD, ixS, idxD, at0, at1, at2, eqI, neI, eqBl, neBl, beq_self_eq_true, Bool.not_true, Bool.not_false, eqS, neS, eqL0, neL0, eqT0, neT0, List.isEmpty_cons, List.isEmpty_nil, iscD, valD, istOf, List.getD_cons_zero, List.getD_cons_succ, List.length_cons, List.length_nil, appendK, sliceD, Option.map_some, Option.bind_some, isi_int_non, isi_int_bl, isi_int_int, isi_int_str, isi_int_tup, isi_int_lst, isi_int_dct, isi_bool_non, isi_bool_bl, isi_bool_int, isi_bool_str, isi_bool_tup, isi_bool_lst, isi_bool_dct, isi_tuple_non, isi_tuple_bl, isi_tuple_int, isi_tuple_str, isi_tuple_tup, isi_tuple_lst, isi_tuple_dct, isi_str_non, isi_str_bl, isi_str_int, isi_str_str, isi_str_tup, isi_str_lst, isi_str_dct, isi_list_non, isi_list_bl, isi_list_int, isi_list_str, isi_list_tup, isi_list_lst, isi_list_dct, isi_dict_non, isi_dict_bl, isi_dict_int, isi_dict_str, isi_dict_tup, isi_dict_lst, isi_dict_dct]; exact rfl)) | (refine ⟨(by rfl : small _ = true), ?_⟩) | (refine ⟨(by rfl : rhsO _ _ = true), ?_⟩) | (refine ⟨(by rfl : List.length _ = List.length _), ?_⟩)))

abbrev loreD (n : Net3) : D := .dct [.str "places", .str "watchers", .str "ties"] [lx n.ps, lx n.ws, .lst (n.ts.map tx)]
theorem dixP (n : Net3) : dixD (loreD n) (.str "places") = some (lx n.ps) := by
  show lookK (.inr ("places" : Str)) _ _ = _
  simp only [lookK, keyOf, if_true]
theorem dixW (n : Net3) : dixD (loreD n) (.str "watchers") = some (lx n.ws) := by
  have h : ¬ (some (Sum.inr ("places" : Str)) : Option Key) = some (Sum.inr ("watchers" : Str)) := by decide +kernel
  show lookK (.inr ("watchers" : Str)) _ _ = _
  simp only [lookK, keyOf, if_neg h, if_true]
theorem dixT (n : Net3) : dixD (loreD n) (.str "ties") = some (.lst (n.ts.map tx)) := by
  have h : ¬ (some (Sum.inr ("places" : Str)) : Option Key) = some (Sum.inr ("ties" : Str)) := by decide +kernel
  have h2 : ¬ (some (Sum.inr ("watchers" : Str)) : Option Key) = some (Sum.inr ("ties" : Str)) := by decide +kernel
  show lookK (.inr ("ties" : Str)) _ _ = _
  simp only [lookK, keyOf, if_neg h, if_neg h2, if_true]
def unT : D → List Str
  | .tup xs => xs.map unS
  | _ => []
theorem unT_tx (l : List Str) : unT (tx l) = l := by
  show (l.map D.str).map unS = l
  rw [List.map_map, show unS ∘ D.str = id from rfl, List.map_id]
theorem inj_perm {α : Type} {inj : α → D} {un : D → α} (hu : ∀ a, un (inj a) = a) {l : List α} {ys rest : List D} (h : (ys ++ rest).Perm (l.map inj)) : ∃ a b : List α, ys = a.map inj ∧ rest = b.map inj ∧ (a ++ b).Perm l := by
  have key : ∀ (zs : List D), (∀ z ∈ zs, z ∈ l.map inj) → ∃ a : List α, zs = a.map inj := by
    intro zs
    induction zs with
    | nil => intro _; exact ⟨[], rfl⟩
    | cons z zs ih =>
      intro hz
      obtain ⟨a, ha⟩ := ih fun x hx => hz x (List.mem_cons_of_mem _ hx)
      obtain ⟨x, _, hx⟩ := List.mem_map.mp (hz z (List.mem_cons_self ..))
      exact ⟨x :: a, by rw [ha, ← hx]; rfl⟩
  obtain ⟨a, ha⟩ := key ys fun z hz => h.subset (List.mem_append_left _ hz)
  obtain ⟨b, hb⟩ := key rest fun z hz => h.subset (List.mem_append_right _ hz)
  refine ⟨a, b, ha, hb, ?_⟩
  rw [ha, hb, ← List.map_append] at h
  have h2 := h.map un
  have e : un ∘ inj = id := funext hu
  rw [List.map_map, List.map_map, e, List.map_id, List.map_id] at h2
  exact h2
theorem pool_asc {ns : List Str} (h : ∀ n ∈ ns, n ∈ poolN) : ∀ n ∈ ns, asc n = true := fun n hn => (okName_word (pool_ok n (h n hn))).1.a
theorem e__law_made {ps ws : List Str} {ts : List (List Str)} (S : Sto) (hp : ∀ y ∈ ps, asc y = true) (hw : ∀ y ∈ ws, asc y = true) (hn : ps.length ≤ 1000) : f__law_made [lx ps, lx ws, .lst (ts.map tx)] S = .ok (loreD ⟨ps, inSeq ps ws, ts⟩) S := by
  refine Res.is (wbody rfl ?_)
  unfold g__law_made
  repeat' (first | done | fail)
  refine ⟨smL (by simp; omega), rfl, ?_⟩
  refine wcompM (inj := D.str) (P := fun p => decide (p ∈ ws)) (F := D.str) ps (fun x hx => ⟨_, rfl, ?_⟩) ?_
  · repeat' (first | with_reducible refine exC (in_lx (hp x hx) hw) ?_ | done | fail)
    refine ⟨rfl, fun _ => ?_, fun _ => rfl⟩
    repeat' (first | done | fail)
    exact ⟨rfl, rfl⟩
  · repeat' (first | done | fail)
    exact ⟨rfl, rfl⟩
theorem tie_words {ps t : List Str} (hp : ps.all okName = true) (h : t.Sublist ps) : ∀ w ∈ t, okName w = true := fun w hw => List.all_eq_true.mp hp w (h.subset hw)
theorem okNet.words {n : Net3} (h : okNet n) : okLines (linesOf n) ∧ ∀ l ∈ linesOf n, l.length ≤ 9 ∧ ∀ w ∈ l, w.length ≤ 8 := by
  have key : ∀ l ∈ linesOf n, l ≠ [] ∧ l.length ≤ 9 ∧ ∀ w ∈ l, okWord w ∧ w.length ≤ 8 := by
    intro l hl
    unfold linesOf at hl
    rcases List.mem_cons.mp hl with rfl | hl
    · refine ⟨by simp, by have := h.p2; simp only [List.length_cons]; omega, fun w hw => ?_⟩
      rcases List.mem_cons.mp hw with rfl | hw
      · exact okName_word (by decide +kernel)
      · exact okName_word (List.all_eq_true.mp h.pn w hw)
    · rcases List.mem_cons.mp hl with rfl | hl
      · refine ⟨by simp, by have := h.w2.length_le; have := h.p2; simp only [List.length_cons]; omega, fun w hw => ?_⟩
        rcases List.mem_cons.mp hw with rfl | hw
        · exact okName_word (by decide +kernel)
        · exact okName_word (tie_words h.pn h.w2 w hw)
      · obtain ⟨t, ht, rfl⟩ := List.mem_map.mp hl
        have ht := h.tl t ht
        refine ⟨by simp, by simp only [List.length_cons]; omega, fun w hw => ?_⟩
        rcases List.mem_cons.mp hw with rfl | hw
        · exact okName_word (by decide +kernel)
        · exact okName_word (tie_words h.pn ht.2 w hw)
  exact ⟨⟨by unfold linesOf; simp, fun l hl => ⟨(key l hl).1, fun w hw => ((key l hl).2.2 w hw).1⟩⟩, fun l hl => ⟨(key l hl).2.1, fun w hw => ((key l hl).2.2 w hw).2⟩⟩
theorem okNet.len {n : Net3} (h : okNet n) : (linesOf n).length ≤ 16 := by
  unfold linesOf
  have := h.t2
  simp only [List.length_cons, List.length_map]
  omega
theorem okNet.tx {n : Net3} (h : okNet n) : txOk 1312 (textOf (linesOf n)) := text_ok (a := 8) (k := 9) (n := 16) h.words.1 h.words.2 h.len
theorem okNet.net {n : Net3} (h : okNet n) : netP (textOf (linesOf n)) = .ok n := by rw [netP_text h.words.1, netW_ok h]
theorem line_len {l : List Str} (h : l.length ≤ 9 ∧ ∀ w ∈ l, w.length ≤ 8) : (lineOf l).length ≤ 81 := by
  have h1 := len_join (y := " ") (a := 8) (ps := l) h.2
  have e : (" " : Str).length = 1 := by decide
  rw [e] at h1
  have h2 : l.length * (8 + 1) ≤ 9 * 9 := Nat.mul_le_mul_right _ h.1
  unfold lineOf
  omega
theorem e__law_text {n : Net3} (S : Sto) (h : okNet n) : f__law_text [loreD n] S = .ok (.str (textOf (linesOf n))) S := by
  have hw := h.words.2
  have hp : (("places" : Str) :: n.ps) ∈ linesOf n := by unfold linesOf; simp
  have hq : (("watchers" : Str) :: n.ws) ∈ linesOf n := by unfold linesOf; simp
  have jp : joinD " " (lx ("places" :: n.ps)) = some (.str (lineOf ("places" :: n.ps))) := jn_lx (a := 8) (k := 9) (hw _ hp).2 (hw _ hp).1 (by decide)
  have jw : joinD " " (lx ("watchers" :: n.ws)) = some (.str (lineOf ("watchers" :: n.ws))) := jn_lx (a := 8) (k := 9) (hw _ hq).2 (hw _ hq).1 (by decide)
  have lp : n.ps.length ≤ 10000 := by have := h.p2; omega
  have lw : n.ws.length ≤ 10000 := by have := h.w2.length_le; omega
  have lt : n.ts.length ≤ 14 := h.t2
  refine Res.is (wbody rfl ?_)
  unfold g__law_text
  repeat' (first | with_reducible refine exC (dixP n) ?_ | with_reducible refine exC (dixW n) ?_ | with_reducible refine exC (add1_lx lp) ?_ | with_reducible refine exC (add1_lx lw) ?_ | with_reducible refine exC (jp) ?_ | with_reducible refine exC (jw) ?_ | with_reducible refine exC (dixT n) ?_ | done | fail)
  refine ⟨smL (by simp; omega), rfl, ?_⟩
  refine wcompM (inj := tx) (P := fun _ => true) (F := fun t => .str (lineOf ("tie" :: t))) n.ts (fun t ht => ?_) ?_
  · have q := h.tl t ht
    match t, q with
    | [x, y], q =>
      have hx : x.length ≤ 50 := by have := (okName_word (tie_words h.pn q.2 x (by simp))).2; omega
      have hy : y.length ≤ 50 := by have := (okName_word (tie_words h.pn q.2 y (by simp))).2; omega
      refine ⟨_, rfl, wyes ⟨rfl, fun _ => ?_, fun h => nomatch h⟩⟩
      repeat' (first | (with_reducible refine w_tie ?_) | (with_reducible refine exT hx ?_) | (with_reducible refine exT hy ?_) | done | fail)
      exact ⟨rfl, rfl⟩
  · rw [filter_yes]
    have eL : n.ts.map (fun t => D.str (lineOf ("tie" :: t))) = ((n.ts.map (("tie" : Str) :: ·)).map lineOf).map D.str := by rw [List.map_map, List.map_map]; rfl
    rw [eL]
    have lL : ((n.ts.map (("tie" : Str) :: ·)).map lineOf).length ≤ 10000 := by simp; omega
    have jf : joinD "\n" (lx (lineOf ("places" :: n.ps) :: lineOf ("watchers" :: n.ws) :: (n.ts.map (("tie" : Str) :: ·)).map lineOf)) = some (.str (textOf (linesOf n))) := by
      have hl := h.len
      refine jf_lx (l := (linesOf n).map lineOf) (a := 81) (k := 16) (fun w hw' => ?_) (by simpa using hl) (by decide)
      obtain ⟨l, hl, rfl⟩ := List.mem_map.mp hw'
      exact line_len (hw l hl)
    repeat' (first | with_reducible refine exC (add2_lx lL) ?_ | with_reducible refine exC (jf) ?_ | done | fail)
    exact ⟨rfl, rfl⟩
end Z

set_option Elab.async false
set_option linter.all false
set_option maxRecDepth 100000
set_option maxHeartbeats 4000000
/-! N6: a drawn net is right -/
namespace Z
open PySem PySem.Spec PyProof.Rows L2 RZ TL
local macro_rules
  | `(tactic| done) => `(tactic| (first | ((with_reducible refine wseq ?_); try dsimp only [List.set_cons_zero, List.set_cons_succ, setAll, padE, hide, hideE, backE, List.getD, List.getElem?_cons_zero, List.getElem?_cons_succ, Option.getD_some, List.map_cons, List.map_nil, List.length_cons, List.length_nil, List.replicate, List.cons_append, List.nil_append, List.append_nil, Nat.reduceAdd, Nat.reduceSub]) | ((with_reducible refine wseqN ?_); try dsimp only [List.set_cons_zero, List.set_cons_succ, setAll, padE, hide, hideE, backE, List.getD, List.getElem?_cons_zero, List.getElem?_cons_succ, Option.getD_some, List.map_cons, List.map_nil, List.length_cons, List.length_nil, List.replicate, List.cons_append, List.nil_append, List.append_nil, Nat.reduceAdd, Nat.reduceSub]) | with_reducible refine wvar (by with_unfolding_all exact rfl) ?_ | with_reducible refine wnext ?_ | with_reducible refine wpass ?_ | with_reducible refine wret ?_ | with_reducible refine wif ?_ | with_reducible refine wexpr ?_ | with_reducible refine wset ?_ | with_reducible refine wsetB ?_ | with_reducible refine wpar ?_ | with_reducible refine wsnil ?_ | with_reducible refine wsval ?_ | with_reducible refine wsnew ?_ | with_reducible refine wsetItem ?_ | with_reducible refine wraise ?_ | with_reducible refine wfor ?_ | with_reducible refine wk ?_ | with_reducible refine wop ?_ | with_reducible refine wtand ?_ | with_reducible refine wtor ?_ | with_reducible refine wtnot ?_ | with_reducible refine wtoB ?_ | with_reducible refine wand ?_ | with_reducible refine wor ?_ | with_reducible refine wnot ?_ | with_reducible refine wite ?_ | with_reducible refine wchain ?_ | with_reducible refine wnil ?_ | with_reducible refine wcons ?_ | with_reducible refine wtup ?_ | with_reducible refine wlst ?_ | with_reducible refine wfrz ?_ | with_reducible refine wcel ?_ | with_reducible refine wcb ?_ | with_reducible refine wcall0 ?_ | with_reducible refine wcall ?_ | with_reducible refine widx ?_ | with_reducible refine wneg ?_ | with_reducible refine wisi ?_ | with_reducible refine wisc ?_ | with_reducible refine wval ?_ | with_reducible refine wmk ?_ | with_reducible refine wrev ?_ | with_reducible refine wup ?_ | with_reducible refine wenum ?_ | with_reducible refine wonone ?_ | with_reducible refine wosome ?_ | with_reducible refine wslice ?_ | with_reducible refine wlistF ?_ | with_reducible refine wlistRg ?_ | with_reducible refine wrange ?_ | with_reducible refine wseqI ?_ | with_reducible refine wzip ?_ | with_reducible refine wdct ?_ | with_reducible refine wdctB ?_ | with_reducible refine wdct0 ?_ | with_reducible refine wsetD ?_ | with_reducible refine wsnewD ?_ | with_reducible refine wcallF ?_ | with_reducible refine wputK ?_ | with_reducible refine windex ?_ | with_reducible refine wstarI ?_ | with_reducible refine wheard ?_ | with_reducible refine wyes ?_ | with_reducible refine wcomp ?_ | with_reducible refine wsplit ?_ | with_reducible refine wjoin ?_ | with_reducible refine wlenSet ?_ | with_reducible refine wfldO ?_ | with_reducible refine wprop ?_ | with_reducible refine wmeth ?_ | with_reducible refine winB ?_ | with_reducible refine wninB ?_ | with_reducible refine wlenO ?_ | with_reducible refine winO ?_ | with_reducible refine weqO ?_ | with_reducible refine wiso ?_ | with_reducible refine wstar ?_ | with_reducible refine wfld1 ?_ | with_reducible refine wasg ?_ | with_reducible refine wlenB (by with_unfolding_all exact rfl) ?_ | with_reducible refine wlenV (by with_unfolding_all exact rfl) ?_ | with_reducible refine wvarB (by with_unfolding_all exact rfl) ?_ | with_reducible refine wvarX (by with_unfolding_all exact rfl) ?_ | with_reducible refine wvarXB (by with_unfolding_all exact rfl) (by with_unfolding_all exact rfl) ?_ | with_reducible refine wupd (by with_unfolding_all exact rfl) ?_ | with_reducible refine wbld (by with_unfolding_all exact rfl) ?_ | with_reducible refine wblk (by with_unfolding_all exact rfl) ?_ | with_reducible refine wmade (by with_unfolding_all exact rfl) ?_ | with_reducible refine exB ?_ | with_reducible refine exI ?_ | with_reducible refine exS ?_ | with_reducible refine exO ?_ | with_reducible refine exG (by with_unfolding_all exact rfl) ?_ | ((with_reducible apply exM); exact rfl) | (with_reducible refine ⟨fun _ => ?_, b_tf⟩) | (with_reducible refine ⟨b_ft, fun _ => ?_⟩) | (with_reducible refine ⟨b_nt, fun _ => ?_⟩) | (with_reducible refine ⟨fun _ => ?_, b_nf⟩) | ((with_reducible apply exC); (simp only [List.map_cons, addD, subD, cmpI, isND, isNotND, lenD, absD, intD, tupleD, maxD, minD, listS, revD, enumS, seqD, zipS, zipD, ixS, idxD, at0, at1, at2, eqI, neI, eqBl, neBl, beq_self_eq_true, Bool.not_true, Bool.not_false, eqS, neS, eqL0, neL0, eqT0, neT0, List.isEmpty_cons, List.isEmpty_nil, iscD, valD, istOf, List.getD_cons_zero, List.getD_cons_succ, List.length_cons, List.length_nil, appendK, sliceD, Option.map_some, Option.bind_some, isi_int_non, isi_int_bl, isi_int_int, isi_int_str, isi_int_tup, isi_int_lst, isi_int_dct, isi_bool_non, isi_bool_bl, isi_bool_int, isi_bool_str, isi_bool_tup, isi_bool_lst, isi_bool_dct, isi_tuple_non, isi_tuple_bl, isi_tuple_int, isi_tuple_str, isi_tuple_tup, isi_tuple_lst, isi_tuple_dct, isi_str_non, isi_str_bl, isi_str_int, isi_str_str, isi_str_tup, isi_str_lst, isi_str_dct, isi_list_non, isi_list_bl, isi_list_int, isi_list_str, isi_list_tup, isi_list_lst, isi_list_dct, isi_dict_non, isi_dict_bl, isi_dict_int, isi_dict_str, isi_dict_tup, isi_dict_lst, isi_dict_dct]; exact rfl)) | (refine ⟨(by rfl : small _ = true), ?_⟩) | (refine ⟨(by rfl : rhsO _ _ = true), ?_⟩) | (refine ⟨(by rfl : List.length _ = List.length _), ?_⟩)))

theorem slD {xs : List D} {v : Int} (h : 0 ≤ v) : sliceD (.lst xs) none (some v) = some (.lst (xs.take v.toNat)) := by
  obtain ⟨n, rfl⟩ := Int.eq_ofNat_of_zero_le h
  show some (D.lst (cutL xs none (some (n : Int)))) = _
  rw [cut_take]
  rfl
theorem mem_lx {l : List Str} {d : D} (h : d ∈ l.map D.str) : ∃ x ∈ l, d = .str x := by
  obtain ⟨x, hx, rfl⟩ := List.mem_map.mp h
  exact ⟨x, hx, rfl⟩
theorem ninX_ties {p : List Str} {l : List (List Str)} (hp : ∀ x ∈ p, asc x = true) (hl : ∀ p ∈ l, ∀ x ∈ p, asc x = true) : ninL (tx p) (.lst (l.map tx)) = some (.bl (!decide (p ∈ l))) := by
  have h := in_ties hp hl
  unfold inX at h
  obtain ⟨b, h1, h2⟩ := Option.map_eq_some_iff.mp h
  show (inB (tx p) (.lst (l.map tx))).map _ = _
  rw [h1]
  cases h2
  rfl
theorem neX_list (xs : List D) : neX (.lst xs) (.lst []) = some (.bl !xs.isEmpty) := neL0 xs
theorem pairs_of : ∀ {ns : List Str} {n : Nat} {x y : Str}, x ∈ ns.take (n + 1) → (ns.drop (n + 1))[0]? = some y → [x, y] ∈ pairsL ns
  | [], n, x, y, h, _ => by simp at h
  | a :: ns, 0, x, y, h, hy => by
    simp only [List.take_succ_cons, List.take_zero, List.mem_singleton] at h
    subst h
    simp only [List.drop_succ_cons, List.drop_zero] at hy
    refine List.mem_append_left _ (List.mem_map.mpr ⟨y, ?_, rfl⟩)
    exact List.mem_of_getElem? hy
  | a :: ns, n + 1, x, y, h, hy => by
    rw [List.take_succ_cons] at h
    rw [List.drop_succ_cons] at hy
    rcases List.mem_cons.mp h with rfl | h
    · refine List.mem_append_left _ (List.mem_map.mpr ⟨y, ?_, rfl⟩)
      exact List.mem_of_mem_drop (List.mem_of_getElem? hy)
    · exact List.mem_append_right _ (pairs_of h hy)
def sec : List Str → Str
  | [_, y] => y
  | _ => Str.empty
theorem sec_nodup : ∀ {fs : List (List Str)}, (fs.map sec).Nodup → fs.Nodup
  | [], _ => List.nodup_nil
  | t :: fs, h => by
    rw [List.map_cons, List.nodup_cons] at h
    rw [List.nodup_cons]
    exact ⟨fun hm => h.1 (List.mem_map.mpr ⟨t, hm, rfl⟩), sec_nodup h.2⟩
theorem inSeq_len {ns ws rest : List Str} (h : (ws ++ rest).Perm ns) (hn : ns.Nodup) : (inSeq ns ws).length = ws.length := by
  have hd := h.nodup_iff.mpr hn
  have h1 := (h.filter fun p => decide (p ∈ ws)).length_eq
  unfold inSeq
  rw [← h1, List.filter_append, List.length_append]
  have e1 : ws.filter (fun p => decide (p ∈ ws)) = ws := List.filter_eq_self.mpr fun x hx => decide_eq_true hx
  have e2 : rest.filter (fun p => decide (p ∈ ws)) = [] := by
    rw [List.filter_eq_nil_iff]
    intro x hx
    have := (List.nodup_append.mp hd).2.2
    intro hm
    exact this x (of_decide_eq_true hm) x hx rfl
  rw [e1, e2]
  simp
theorem pairs_ne {ns : List Str} (h : 2 ≤ ns.length) : pairsL ns ≠ [] := by
  match ns, h with
  | a :: b :: ns, _ => simp [pairsL]
structure Lore (n : Net3) (few most : Nat) : Prop where
  ok : okNet n
  f : few ≤ n.ps.length
  m : n.ps.length ≤ most
  p : ∀ x ∈ n.ps, x ∈ poolN
  q : ∀ t ∈ n.ts, t ∈ pairsL n.ps
theorem Lore.asc {n : Net3} {few most : Nat} (h : Lore n few most) : ∀ x ∈ n.ps, asc x = true := pool_asc h.p
theorem r_lore {S : Sto} {p k few most ties : Nat} (h : PotAt S p k) (hk : k < 100000) (h3 : 3 ≤ few) (hm : few ≤ most) (h8 : most ≤ 8) (ht : ties ≤ 1000) : Res (f__law_lore [.cel p, .int few, .int most, .int ties] S) (fun d S' => ∃ n, Lore n few most ∧ d = loreD n ∧ PotAt S' p (k + 60)) nE := by
  refine wbody rfl ?_
  unfold g__law_lore
  repeat' (first | done | fail)
  refine (r_take h (by omega) (by omega) (by omega)).use ?_
  rintro _ S1 ⟨r, rfl, r0, r1, h1⟩
  obtain ⟨many, hmany⟩ : ∃ many : Nat, (few : Int) + r = (many : Nat) := ⟨((few : Int) + r).toNat, by omega⟩
  repeat' (first | done | fail)
  rw [hmany]
  refine (r_names (many := many) h1 (by omega) (by omega)).use ?_
  rintro _ S2 ⟨ns, rfl, hl, hd, hpo, h2⟩
  have ha := pool_asc hpo
  have hpn : ns.all okName = true := List.all_eq_true.mpr fun n hn => pool_ok n (hpo n hn)
  have pa : ∀ t ∈ pairsL ns, ∀ x ∈ t, asc x = true := fun t ht x hx => ha x ((pairs_sub ht).2.subset hx)
  repeat' (first | done | dsimp only [List.cons_append, List.nil_append] | with_reducible refine Res.eq (e__law_pairs _ (by omega)) ?_ | fail)
  refine (r_take h2 (by omega) (by decide) (by decide)).use ?_
  rintro _ S3 ⟨r', rfl, r0', r1', h3'⟩
  repeat' (first | done | fail)
  refine wjoin2 (I := fun m => ∃ (fs : List (List Str)) (e10 e11 : Sl) (S4 : Sto), m = ⟨[.val (.cel p), .val (.int few), .val (.int most), .val (.int ties), .val (lx ns), .un, .un, .bld (fs.map tx), .un, .val (.lst ((pairsL ns).map tx)), e10, e11, .un], S4⟩ ∧ fs.Nodup ∧ (∀ t ∈ fs, t ∈ pairsL ns) ∧ fs.length ≤ 7 ∧ PotAt S4 p (k + 17)) (fun hb => ?_) (fun hb => ?_) ?_
  · repeat' (first | with_reducible refine exC (sl_from (by decide)) ?_ | done | fail)
    rw [enumD_F]
    refine wforL (I := fun rest m => ∃ (n : Nat) (fs : List (List Str)) (e10 e11 : Sl) (S4 : Sto), m = ⟨[.val (.cel p), .val (.int few), .val (.int most), .val (.int ties), .val (lx ns), .un, .un, .bld (fs.map tx), .un, .val (.lst ((pairsL ns).map tx)), e10, e11, .un], S4⟩ ∧ rest = enumF n ((ns.drop (n + 1)).map .str) ∧ fs.map (sec) = (ns.drop 1).take n ∧ (∀ t ∈ fs, t ∈ pairsL ns) ∧ fs.length = n ∧ n < ns.length ∧ PotAt S4 p (k + 10 + n)) ?_ ?_ _ _ ⟨0, [], .un, .un, S3, rfl, rfl, rfl, (fun t h => nomatch h), rfl, by omega, h3'.mono (by omega)⟩
    · rintro d ds m ⟨n, fs, e10, e11, S4, rfl, hr, hf, hp4, hfl, hnl, h4⟩
      cases eq : ns.drop (n + 1) with
      | nil => rw [eq] at hr; cases hr
      | cons y ys =>
        rw [eq] at hr
        simp only [List.map_cons, enumF, List.cons.injEq] at hr
        obtain ⟨rfl, rfl⟩ := hr
        have hn2 : n + 1 < ns.length := by
          have := congrArg List.length eq
          rw [List.length_drop, List.length_cons] at this
          omega
        refine ⟨_, rfl, ?_⟩
        repeat' (first | with_reducible refine exC (sl_to (by omega)) ?_ | done | fail)
        have lt : (ns.take ((n : Int) + 1).toNat).length = n + 1 := by rw [List.length_take]; omega
        refine (r_of h4 (by omega) (fun e => by have := congrArg List.length e; rw [List.length_map, lt] at this; cases this) (by rw [List.length_map, lt]; omega)).use ?_
        rintro _ S5 ⟨hx, h5⟩
        obtain ⟨x, hx1, rfl⟩ := mem_lx hx
        have sf : small (fs.map tx).length = true := smL (by rw [List.length_map]; omega)
        repeat' (first | (with_reducible refine exApp (by with_unfolding_all exact rfl) sf ?_) | done | fail)
        have e1 : ((n : Int) + 1).toNat = n + 1 := by omega
        rw [e1] at hx1
        refine ⟨n + 1, fs ++ [[x, y]], _, _, S5, by rw [List.map_append]; rfl, by rw [← List.drop_drop, eq]; rfl, ?_, ?_, by simp [hfl], hn2, h5⟩
        · rw [List.map_append, hf]
          have : (ns.drop 1)[n]? = some y := by
            rw [List.getElem?_drop, Nat.add_comm]
            have := List.getElem?_drop (xs := ns) (i := n + 1) (j := 0)
            rw [eq] at this
            simpa using this.symm
          rw [List.take_succ, this]
          rfl
        · intro t ht
          rcases List.mem_append.mp ht with ht | ht
          · exact hp4 t ht
          · rw [List.mem_singleton.mp ht]
            exact pairs_of hx1 (by rw [eq]; rfl)
    · rintro m ⟨n, fs, e10, e11, S4, rfl, hr, hf, hp4, hfl, hnl, h4⟩
      repeat' (first | done | fail)
      refine ⟨fs, e10, e11, S4, rfl, sec_nodup ?_, hp4, by omega, h4.mono (by omega)⟩
      rw [hf]
      exact (hd.sublist (List.drop_sublist _ _)).sublist (List.take_sublist _ _)
  · repeat' (first | done | fail)
    exact ⟨[], .un, .un, S3, rfl, List.nodup_nil, (fun t h => nomatch h), by simp, h3'.mono (by omega)⟩
  · rintro m ⟨fs, e10, e11, S4, rfl, hfd, hfp, hfl, h4⟩
    have fa : ∀ t ∈ fs, ∀ x ∈ t, asc x = true := fun t ht => pa t (hfp t ht)
    have lp : (pairsL ns).length ≤ 64 := by
      have h1 := pairs_len ns
      have h2 : ns.length * ns.length ≤ 8 * 8 := Nat.mul_le_mul (by omega) (by omega)
      omega
    repeat' (first | done | fail)
    refine ⟨smL (by simp; omega), rfl, ?_⟩
    refine wcompM (inj := tx) (P := fun t => !decide (t ∈ fs)) (F := tx) (pairsL ns) (fun t ht => ⟨_, rfl, ?_⟩) ?_
    · repeat' (first | done | fail)
      refine ⟨_, (ninSl_b (by with_unfolding_all exact rfl)).trans (ninX_ties (pa t ht) fa), ?_⟩
      repeat' (first | done | fail)
      refine ⟨rfl, fun _ => ?_, fun _ => rfl⟩
      repeat' (first | done | fail)
      exact ⟨rfl, rfl⟩
    · repeat' (first | done | fail)
      obtain ⟨room, hroom, hroom2⟩ : ∃ room : Nat, (if (if (14 : Int) < ties then (14 : Int) else ties) - ((fs.map tx).length : Nat) > 0 then (if (14 : Int) < ties then (14 : Int) else ties) - ((fs.map tx).length : Nat) else 0) = (room : Int) ∧ room + fs.length ≤ 14 := by
        rw [List.length_map]
        refine ⟨((if (if (14 : Int) < ties then (14 : Int) else ties) - (fs.length : Nat) > 0 then (if (14 : Int) < ties then (14 : Int) else ties) - (fs.length : Nat) else 0)).toNat, ?_, ?_⟩ <;> (split <;> split <;> omega)
      rw [hroom]
      refine (r_take h4 (by omega) (by omega) (by omega)).use ?_
      rintro _ S5 ⟨r2, rfl, r20, r21, h5⟩
      repeat' (first | done | fail)
      obtain ⟨more, hmore, hmore2⟩ : ∃ more : Nat, (if r2 < (((List.filter (fun t => !decide (t ∈ fs)) (pairsL ns)).map tx).length : Nat) then r2 else (((List.filter (fun t => !decide (t ∈ fs)) (pairsL ns)).map tx).length : Nat)) = (more : Int) ∧ more ≤ ((List.filter (fun t => !decide (t ∈ fs)) (pairsL ns)).map tx).length ∧ more ≤ room := by
        refine ⟨(if r2 < (((List.filter (fun t => !decide (t ∈ fs)) (pairsL ns)).map tx).length : Nat) then r2 else (((List.filter (fun t => !decide (t ∈ fs)) (pairsL ns)).map tx).length : Nat)).toNat, ?_, ?_⟩ <;> (split <;> omega)
      obtain ⟨R, hR⟩ : ∃ R, R = List.filter (fun t => !decide (t ∈ fs)) (pairsL ns) := ⟨_, rfl⟩
      have lR : R.length ≤ 64 := by rw [hR]; exact Nat.le_trans (List.length_filter_le _ _) lp
      rw [hmore]
      rw [← hR] at hmore2 ⊢
      refine (r_some (many := more) h5 (by omega) hmore2.1 (by simp; omega)).use ?_
      rintro _ S6 ⟨zs, rest, rfl, hperm, hzl, h6⟩
      obtain ⟨ys, rs', rfl, rfl, hp2⟩ := inj_perm unT_tx hperm
      have hyl : ys.length = more := by simpa using hzl
      have hRd : R.Nodup := by rw [hR]; exact (pairs_nd hd).sublist List.filter_sublist
      have hyd : ys.Nodup := (List.nodup_append.mp (hp2.nodup_iff.mpr hRd)).1
      have hyR : ∀ t ∈ ys, t ∈ pairsL ns ∧ t ∉ fs := fun t ht => by
        have := hp2.subset (List.mem_append_left _ ht)
        rw [hR, List.mem_filter] at this
        exact ⟨this.1, by simpa using this.2⟩
      have f2d : (fs ++ ys).Nodup := List.nodup_append.mpr ⟨hfd, hyd, fun a ha b hb e => (hyR b hb).2 (e ▸ ha)⟩
      have f2p : ∀ t ∈ fs ++ ys, t ∈ pairsL ns := fun t ht => (List.mem_append.mp ht).elim (hfp t) fun h => (hyR t h).1
      have f2l : (fs ++ ys).length ≤ 14 := by rw [List.length_append]; omega
      have e2 : addD (.lst (fs.map tx)) (.lst (ys.map tx)) = some (.lst ((fs ++ ys).map tx)) := by
        show (if small _ = true then _ else _) = _
        rw [if_pos (smL (by simp; omega)), ← List.map_append]
      repeat' (first | with_reducible refine exC (e2) ?_ | with_reducible refine exC (neL0 _) ?_ | done | fail)
      refine wjoinE (I := fun d m => ∃ gs : List (List Str), d = .lst (gs.map tx) ∧ m = ⟨[.val (.cel p), .val (.int few), .val (.int most), .val (.int ties), .val (lx ns), .val (.lst (R.map tx)), .val (.int room), .val (.lst ((fs ++ ys).map tx)), .un, .val (.lst ((pairsL ns).map tx)), e10, e11, .un], S6⟩ ∧ gs ≠ [] ∧ gs.Nodup ∧ (∀ t ∈ gs, t ∈ pairsL ns) ∧ gs.length ≤ 14) (fun hb => ?_) (fun hb => ?_) ?_
      · repeat' (first | done | fail)
        exact ⟨fs ++ ys, rfl, rfl, (fun e => by rw [e] at hb; cases hb), f2d, f2p, f2l⟩
      · repeat' (first | with_reducible refine exC (slD (by decide)) ?_ | done | fail)
        refine ⟨(pairsL ns).take 1, by rw [List.map_take]; rfl, rfl, ?_, (pairs_nd hd).sublist (List.take_sublist _ _), fun t ht => List.mem_of_mem_take ht, by rw [List.length_take]; omega⟩
        intro e
        have := pairs_ne (ns := ns) (by omega)
        cases ep : pairsL ns with
        | nil => exact this ep
        | cons a b => rw [ep] at e; cases e
      · rintro _ _ ⟨gs, rfl, rfl, g1, g2, g3, g4⟩
        repeat' (first | done | fail)
        refine (r_take h6 (by omega) (by simp; omega) (by simp; omega)).use ?_
        rintro _ S7 ⟨r3, rfl, r30, r31, h7⟩
        obtain ⟨wn, hwn⟩ : ∃ wn : Nat, (2 : Int) + r3 = (wn : Nat) := ⟨((2 : Int) + r3).toNat, by omega⟩
        rw [List.length_map] at r31
        repeat' (first | done | fail)
        rw [hwn]
        refine (r_some (many := wn) h7 (by omega) (by simp; omega) (by simp; omega)).use ?_
        rintro _ S8 ⟨zs, rest, rfl, hperm, hzl, h8⟩
        obtain ⟨ws, rs2, rfl, rfl, hp3⟩ := str_perm hperm
        have hwl : ws.length = wn := by simpa using hzl
        repeat' (first | done | fail)
        have lg : ((gs.map tx).length : Int) = ((gs.length : Nat) : Int) := by simp
        rw [lg]
        refine (r_some (many := gs.length) h8 (by omega) (by simp) (by simp; omega)).use ?_
        rintro _ S9 ⟨zs, rest, rfl, hperm, hzl, h9⟩
        obtain ⟨ts, rs3, rfl, rfl, hp4⟩ := inj_perm unT_tx hperm
        have htl : ts.length = gs.length := by simpa using hzl
        have r3n : rs3 = [] := by
          have := hp4.length_eq
          rw [List.length_append] at this
          exact List.length_eq_zero_iff.mp (by omega)
        rw [r3n, List.append_nil] at hp4
        have hwa : ∀ y ∈ ws, asc y = true := fun y hy => ha y (hp3.subset (List.mem_append_left _ hy))
        repeat' (first | done | dsimp only [List.cons_append, List.nil_append] | with_reducible refine Res.eq (e__law_made _ ha hwa (by omega)) ?_ | fail)
        refine ⟨⟨ns, inSeq ns ws, ts⟩, ⟨⟨by show 3 ≤ ns.length; omega, by show ns.length ≤ 8; omega, hpn, hd, ?_, List.filter_sublist, ?_, by show ts.length ≤ 14; omega, fun t ht => pairs_sub (g3 t (hp4.subset ht)), hp4.nodup_iff.mpr g2⟩, by show few ≤ ns.length; omega, by show ns.length ≤ most; omega, hpo, fun t ht => g3 t (hp4.subset ht)⟩, rfl, h9.mono (by omega)⟩
        · show 2 ≤ (inSeq ns ws).length
          rw [inSeq_len hp3 hd]
          omega
        · show ts ≠ []
          intro e
          rw [e] at htl
          exact g1 (List.length_eq_zero_iff.mp htl.symm)
end Z

set_option Elab.async false
set_option linter.all false
set_option maxRecDepth 100000
set_option maxHeartbeats 4000000
/-! N7: what a net tells -/
namespace Z
open PySem PySem.Spec PyProof.Rows L2 RZ TL
/-- values that are asked: plain, or a dict -/
structure Pv (d : D) : Prop where
  p : pl1 d = true
  n : dp d ≤ 60
  l : ∀ xs, d = .tup xs → xs.length ≤ 10000
def VV (d : D) : Prop := Pv d ∨ ∃ ks vs, d = .dct ks vs
def isTie (ts : List (List Str)) : D → Bool
  | .tup xs => (match txtsD xs with
    | some l => decide (l ∈ ts)
    | none => false)
  | _ => false
theorem eqb_txt : ∀ (t : List Str) (xs : List D), eqbL (t.map .str) xs = decide (txtsD xs = some t)
  | [], [] => rfl
  | [], x :: xs => by
    cases x <;> simp [eqbL, txtsD]
  | a :: t, [] => by simp [eqbL, txtsD]
  | a :: t, x :: xs => by
    cases x with
    | str y =>
      simp only [List.map_cons, eqbL, eqb, eqb_txt t xs, txtsD]
      rw [Bool.eq_iff_iff]
      simp only [Bool.and_eq_true, beq_iff_eq, decide_eq_true_eq, Option.map_eq_some_iff, List.cons.injEq]
      constructor
      · rintro ⟨rfl, h⟩; exact ⟨t, h, rfl, rfl⟩
      · rintro ⟨u, h, rfl, rfl⟩; exact ⟨rfl, h⟩
    | _ => simp [eqbL, eqb, txtsD]
theorem any_tie (d : D) : ∀ (ts : List (List Str)), ((ts.map tx).any fun y => eqb y d) = isTie ts d
  | [] => by cases d <;> simp [isTie] <;> split <;> rfl
  | t :: ts => by
    have ih := any_tie d ts
    cases d with
    | tup xs =>
      simp only [List.map_cons, List.any_cons, ih, eqb, eqb_txt, isTie]
      cases e : txtsD xs with
      | none => simp
      | some l =>
        rw [Bool.eq_iff_iff]
        simp only [Bool.or_eq_true, decide_eq_true_eq, Option.some.injEq, List.mem_cons]
    | _ => rw [List.map_cons, List.any_cons, ih]; simp [eqb, isTie]
theorem okTies {ts : List (List Str)} (hl : ∀ p ∈ ts, ∀ x ∈ p, asc x = true) : okD (.lst (ts.map tx)) = true := pl1_ok (by simp only [pl1]; exact pl_mapT hl) (by have := dp_mapT ts; simp only [dp]; omega)
theorem in_tiesL {d : D} {ts : List (List Str)} (h : Pv d) (hl : ∀ p ∈ ts, ∀ x ∈ p, asc x = true) : inX d (.lst (ts.map tx)) = some (.bl (isTie ts d)) := by
  show (if (okD d && okD (.lst (ts.map tx))) = true then some _ else none).map _ = _
  rw [if_pos (by rw [pl1_ok h.p (by have := h.n; omega), okTies hl]; rfl), any_tie]
  rfl
theorem in_tiesT {d : D} {ts : List (List Str)} (h : Pv d) (hl : ∀ p ∈ ts, ∀ x ∈ p, asc x = true) : inX d (.tup (ts.map tx)) = some (.bl (isTie ts d)) := in_tiesL h hl
def isS : D → Bool
  | .str _ => true
  | _ => false
theorem isi_str {x : D} (h : pl1 x = true) : isiD "str" x = some (.bl (isS x)) := by
  cases x <;> first | rfl | (simp [pl1] at h)
theorem okNet.asc {n : Net3} (h : okNet n) : ∀ x ∈ n.ps, asc x = true := fun x hx => (okName_word (List.all_eq_true.mp h.pn x hx)).1.a
theorem okNet.tasc {n : Net3} (h : okNet n) : ∀ t ∈ n.ts, ∀ x ∈ t, Z.asc x = true := fun t ht x hx => h.asc x ((h.tl t ht).2.subset hx)
theorem tie_two {n : Net3} (h : okNet n) {d : D} (ht : isTie n.ts d = true) : ∃ x y, d = .tup [.str x, .str y] := by
  cases d with
  | tup xs =>
    simp only [isTie] at ht
    cases e : txtsD xs with
    | none => rw [e] at ht; cases ht
    | some l =>
      rw [e] at ht
      have hl := (h.tl l (of_decide_eq_true ht)).1
      match l, hl with
      | [x, y], _ =>
        refine ⟨x, y, ?_⟩
        have := eqb_txt [x, y] xs
        rw [e] at this
        match xs, e with
        | [.str a, .str b], e => simp [txtsD] at e; rw [e.1, e.2]
        | [], e => simp [txtsD] at e
        | [.str a], e => simp [txtsD] at e
        | .str a :: .str b :: c :: r, e => cases c <;> simp [txtsD] at e
  | _ => cases ht
end Z

set_option Elab.async false
set_option linter.all false
set_option maxRecDepth 100000
set_option maxHeartbeats 4000000
/-! N8: what a net tells, further -/
namespace Z
open PySem PySem.Spec PyProof.Rows L2 RZ TL
local macro_rules
  | `(tactic| done) => `(tactic| (first | ((with_reducible refine wseq ?_); try dsimp only [List.set_cons_zero, List.set_cons_succ, setAll, padE, hide, hideE, backE, List.getD, List.getElem?_cons_zero, List.getElem?_cons_succ, Option.getD_some, List.map_cons, List.map_nil, List.length_cons, List.length_nil, List.replicate, List.cons_append, List.nil_append, List.append_nil, Nat.reduceAdd, Nat.reduceSub]) | ((with_reducible refine wseqN ?_); try dsimp only [List.set_cons_zero, List.set_cons_succ, setAll, padE, hide, hideE, backE, List.getD, List.getElem?_cons_zero, List.getElem?_cons_succ, Option.getD_some, List.map_cons, List.map_nil, List.length_cons, List.length_nil, List.replicate, List.cons_append, List.nil_append, List.append_nil, Nat.reduceAdd, Nat.reduceSub]) | with_reducible refine wvar (by with_unfolding_all exact rfl) ?_ | with_reducible refine wnext ?_ | with_reducible refine wpass ?_ | with_reducible refine wret ?_ | with_reducible refine wif ?_ | with_reducible refine wexpr ?_ | with_reducible refine wset ?_ | with_reducible refine wsetB ?_ | with_reducible refine wpar ?_ | with_reducible refine wsnil ?_ | with_reducible refine wsval ?_ | with_reducible refine wsnew ?_ | with_reducible refine wsetItem ?_ | with_reducible refine wraise ?_ | with_reducible refine wfor ?_ | with_reducible refine wk ?_ | with_reducible refine wop ?_ | with_reducible refine wtand ?_ | with_reducible refine wtor ?_ | with_reducible refine wtnot ?_ | with_reducible refine wtoB ?_ | with_reducible refine wand ?_ | with_reducible refine wor ?_ | with_reducible refine wnot ?_ | with_reducible refine wite ?_ | with_reducible refine wchain ?_ | with_reducible refine wnil ?_ | with_reducible refine wcons ?_ | with_reducible refine wtup ?_ | with_reducible refine wlst ?_ | with_reducible refine wfrz ?_ | with_reducible refine wcel ?_ | with_reducible refine wcb ?_ | with_reducible refine wcall0 ?_ | with_reducible refine wcall ?_ | with_reducible refine widx ?_ | with_reducible refine wneg ?_ | with_reducible refine wisi ?_ | with_reducible refine wisc ?_ | with_reducible refine wval ?_ | with_reducible refine wmk ?_ | with_reducible refine wrev ?_ | with_reducible refine wup ?_ | with_reducible refine wenum ?_ | with_reducible refine wonone ?_ | with_reducible refine wosome ?_ | with_reducible refine wslice ?_ | with_reducible refine wlistF ?_ | with_reducible refine wlistRg ?_ | with_reducible refine wrange ?_ | with_reducible refine wseqI ?_ | with_reducible refine wzip ?_ | with_reducible refine wdct ?_ | with_reducible refine wdctB ?_ | with_reducible refine wdct0 ?_ | with_reducible refine wsetD ?_ | with_reducible refine wsnewD ?_ | with_reducible refine wcallF ?_ | with_reducible refine wputK ?_ | with_reducible refine windex ?_ | with_reducible refine wstarI ?_ | with_reducible refine wheard ?_ | with_reducible refine wyes ?_ | with_reducible refine wcomp ?_ | with_reducible refine wsplit ?_ | with_reducible refine wjoin ?_ | with_reducible refine wlenSet ?_ | with_reducible refine wfldO ?_ | with_reducible refine wprop ?_ | with_reducible refine wmeth ?_ | with_reducible refine winB ?_ | with_reducible refine wninB ?_ | with_reducible refine wlenO ?_ | with_reducible refine winO ?_ | with_reducible refine weqO ?_ | with_reducible refine wiso ?_ | with_reducible refine wstar ?_ | with_reducible refine wfld1 ?_ | with_reducible refine wasg ?_ | with_reducible refine wlenB (by with_unfolding_all exact rfl) ?_ | with_reducible refine wlenV (by with_unfolding_all exact rfl) ?_ | with_reducible refine wvarB (by with_unfolding_all exact rfl) ?_ | with_reducible refine wvarX (by with_unfolding_all exact rfl) ?_ | with_reducible refine wvarXB (by with_unfolding_all exact rfl) (by with_unfolding_all exact rfl) ?_ | with_reducible refine wupd (by with_unfolding_all exact rfl) ?_ | with_reducible refine wbld (by with_unfolding_all exact rfl) ?_ | with_reducible refine wblk (by with_unfolding_all exact rfl) ?_ | with_reducible refine wmade (by with_unfolding_all exact rfl) ?_ | with_reducible refine exB ?_ | with_reducible refine exI ?_ | with_reducible refine exS ?_ | with_reducible refine exO ?_ | with_reducible refine exG (by with_unfolding_all exact rfl) ?_ | ((with_reducible apply exM); exact rfl) | (with_reducible refine ⟨fun _ => ?_, b_tf⟩) | (with_reducible refine ⟨b_ft, fun _ => ?_⟩) | (with_reducible refine ⟨b_nt, fun _ => ?_⟩) | (with_reducible refine ⟨fun _ => ?_, b_nf⟩) | ((with_reducible apply exC); (simp only [List.map_cons, addD, subD, cmpI, isND, isNotND, lenD, absD, intD, tupleD, maxD, minD, listS, revD, enumS, seqD, zipS, zipD, ixS, idxD, at0, at1, at2, eqI, neI, eqBl, neBl, beq_self_eq_true, Bool.not_true, Bool.not_false, eqS, neS, eqL0, neL0, eqT0, neT0, List.isEmpty_cons, List.isEmpty_nil, iscD, valD, istOf, List.getD_cons_zero, List.getD_cons_succ, List.length_cons, List.length_nil, appendK, sliceD, Option.map_some, Option.bind_some, isi_int_non, isi_int_bl, isi_int_int, isi_int_str, isi_int_tup, isi_int_lst, isi_int_dct, isi_bool_non, isi_bool_bl, isi_bool_int, isi_bool_str, isi_bool_tup, isi_bool_lst, isi_bool_dct, isi_tuple_non, isi_tuple_bl, isi_tuple_int, isi_tuple_str, isi_tuple_tup, isi_tuple_lst, isi_tuple_dct, isi_str_non, isi_str_bl, isi_str_int, isi_str_str, isi_str_tup, isi_str_lst, isi_str_dct, isi_list_non, isi_list_bl, isi_list_int, isi_list_str, isi_list_tup, isi_list_lst, isi_list_dct, isi_dict_non, isi_dict_bl, isi_dict_int, isi_dict_str, isi_dict_tup, isi_dict_lst, isi_dict_dct]; exact rfl)) | (refine ⟨(by rfl : small _ = true), ?_⟩) | (refine ⟨(by rfl : rhsO _ _ = true), ?_⟩) | (refine ⟨(by rfl : List.length _ = List.length _), ?_⟩)))

theorem okNet.wasc {n : Net3} (h : okNet n) : ∀ x ∈ n.ws, Z.asc x = true := fun x hx => (okName_word (tie_words h.pn h.w2 x hx)).1.a
theorem e_Net_places {t : Str} {n : Net3} (S : Sto) : f_Net_places [netD t n] S = .ok (tx n.ps) S := by
  refine Res.is (wbody rfl ?_)
  unfold g_Net_places
  repeat' (first | done | fail)
  exact ⟨rfl, rfl⟩
theorem e_Net_watchers {t : Str} {n : Net3} (S : Sto) : f_Net_watchers [netD t n] S = .ok (tx n.ws) S := by
  refine Res.is (wbody rfl ?_)
  unfold g_Net_watchers
  repeat' (first | done | fail)
  exact ⟨rfl, rfl⟩
theorem e_Net_ties {t : Str} {n : Net3} (S : Sto) : f_Net_ties [netD t n] S = .ok (.tup (n.ts.map tx)) S := by
  refine Res.is (wbody rfl ?_)
  unfold g_Net_ties
  repeat' (first | done | fail)
  exact ⟨rfl, rfl⟩
theorem e_Net_len {t : Str} {n : Net3} (S : Sto) : f_Net___len__ [netD t n] S = .ok (.int n.ts.length) S := by
  refine Res.is (wbody rfl ?_)
  unfold g_Net___len__
  repeat' (first | done | fail)
  exact ⟨by simp, rfl⟩
theorem e__law_net {n : Net3} (S : Sto) (h : okNet n) : f__law_net [loreD n] S = .ok (netD (textOf (linesOf n)) n) S := by
  refine Res.is (wbody rfl ?_)
  unfold g__law_net
  repeat' (first | done | dsimp only [List.cons_append, List.nil_append] | with_reducible refine Res.eq (e__law_text _ h) ?_ | fail)
  rw [e_Net _ h.tx (by decide), h.net]
  exact ⟨rfl, rfl⟩
/-- places, watchers, ties as a value -/
abbrev triD (n : Net3) : D := .tup [tx n.ps, tx n.ws, .tup (n.ts.map tx)]
theorem triP {n : Net3} (h : okNet n) : pl1 (triD n) = true ∧ dp (triD n) ≤ 60 := by
  refine ⟨?_, ?_⟩
  · simp only [pl1, pl1s, Bool.and_eq_true]
    exact ⟨pl_map h.asc, pl_map h.wasc, pl_mapT h.tasc, trivial⟩
  · have := dp_mapT n.ts
    simp only [dp, dps, dp_map]
    omega
theorem ne_refl {xs : List D} (h : pl1 (.tup xs) = true) (hd : dp (.tup xs) ≤ 60) (h0 : xs ≠ []) : neX (.tup xs) (.tup xs) = some (.bl false) := by
  have hl : ¬ (xs.length = 0 ∨ xs.length = 0) := by
    have := List.length_pos_iff.mpr h0
    omega
  unfold neX lenEq
  simp only
  rw [if_neg hl]
  show neD (.tup xs) (.tup xs) = _
  have ok := pl1_ok h (by omega)
  rw [(okI ok ok (fun x => nofun)).2, eqb_refl _ h]
  rfl
theorem e_as_told {n : Net3} (S : Sto) (h : okNet n) : f__law_is_as_told [netD (textOf (linesOf n)) n, loreD n] S = .ok (.bl true) S := by
  refine Res.is (wbody rfl ?_)
  unfold g__law_is_as_told
  have hl : decide (0 ≤ ((n.ts.length : Nat) : Int) ∧ ((n.ts.length : Nat) : Int).natAbs < 1000000) = true := decide_eq_true (by have := h.t2; omega)
  repeat' (first | with_reducible refine exC (dixP n) ?_ | with_reducible refine exC (dixW n) ?_ | with_reducible refine exC (dixT n) ?_ | with_reducible refine exC (ne_refl (triP h).1 (triP h).2 (by simp)) ?_ | done | dsimp only [List.cons_append, List.nil_append] | with_reducible refine Res.eq (e_Net_places _) ?_ | with_reducible refine Res.eq (e_Net_watchers _) ?_ | with_reducible refine Res.eq (e_Net_ties _) ?_ | with_reducible refine Res.eq (e_Net_text _) ?_ | with_reducible refine Res.eq (e__law_text _ h) ?_ | with_reducible refine Res.eq (e_Net_len _) ?_ | fail)
  refine ⟨hl, ?_⟩
  repeat' (first | with_reducible refine exC (dixT n) ?_ | done | fail)
  exact ⟨by simp, rfl⟩
/-! ### places -/
def isPl (ps : List Str) : D → Bool
  | .str x => decide (x ∈ ps)
  | _ => false
theorem VV.str {x : Str} (h : VV (.str x)) : asc x = true := by
  rcases h with h | ⟨_, _, h⟩
  · have := h.p
    simp only [pl1] at this
    exact this
  · cases h
theorem e_is_wordV {v : D} {l : List Str} (S : Sto) (hv : VV v) (hl : ∀ y ∈ l, asc y = true) : f_is_word [v, tx l] S = .ok (.bl (isPl l v)) S := by
  cases v with
  | str x => exact e_is_word S hv.str hl
  | _ =>
    first
    | (exfalso
       rcases hv with h | ⟨_, _, h⟩
       · have := h.p
         simp [pl1] at this
       · cases h)
    | (refine Res.is (wbody rfl ?_)
       unfold g_is_word
       repeat' (first | done | fail)
       exact ⟨rfl, rfl⟩)
theorem e_check_place {v : D} {ps : List Str} (S : Sto) (hv : VV v) (hp : ∀ y ∈ ps, asc y = true) (h : isPl ps v = true) : f_check_place [tx ps, v] S = .ok .non S := by
  have e := e_is_wordV (l := ps) S hv hp
  rw [h] at e
  refine Res.is (wbody rfl ?_)
  unfold g_check_place
  repeat' (first | done | dsimp only [List.cons_append, List.nil_append] | with_reducible refine Res.eq (e) ?_ | fail)
  exact ⟨rfl, rfl⟩
theorem e_check_placeX {v : D} {ps : List Str} (S : Sto) (hv : VV v) (hp : ∀ y ∈ ps, asc y = true) (h : isPl ps v = false) : f_check_place [tx ps, v] S = .exc 2 v S := by
  have e := e_is_wordV (l := ps) S hv hp
  rw [h] at e
  refine Res.isExc (wbody rfl ?_)
  unfold g_check_place
  repeat' (first | done | dsimp only [List.cons_append, List.nil_append] | with_reducible refine Res.eq (e) ?_ | fail)
  exact ⟨rfl, rfl, rfl⟩
end Z

set_option Elab.async false
set_option linter.all false
set_option maxRecDepth 100000
set_option maxHeartbeats 4000000
namespace Z
open PySem PySem.Spec PyProof.Rows L2 RZ
local macro_rules
  | `(tactic| done) => `(tactic| (first | ((with_reducible refine wseq ?_); try dsimp only [List.set_cons_zero, List.set_cons_succ, setAll, padE, hide, hideE, backE, List.getD, List.getElem?_cons_zero, List.getElem?_cons_succ, Option.getD_some, List.map_cons, List.map_nil, List.length_cons, List.length_nil, List.replicate, List.cons_append, List.nil_append, List.append_nil, Nat.reduceAdd, Nat.reduceSub]) | ((with_reducible refine wseqN ?_); try dsimp only [List.set_cons_zero, List.set_cons_succ, setAll, padE, hide, hideE, backE, List.getD, List.getElem?_cons_zero, List.getElem?_cons_succ, Option.getD_some, List.map_cons, List.map_nil, List.length_cons, List.length_nil, List.replicate, List.cons_append, List.nil_append, List.append_nil, Nat.reduceAdd, Nat.reduceSub]) | with_reducible refine wvar (by with_unfolding_all exact rfl) ?_ | with_reducible refine wnext ?_ | with_reducible refine wpass ?_ | with_reducible refine wret ?_ | with_reducible refine wif ?_ | with_reducible refine wexpr ?_ | with_reducible refine wset ?_ | with_reducible refine wsetB ?_ | with_reducible refine wpar ?_ | with_reducible refine wsnil ?_ | with_reducible refine wsval ?_ | with_reducible refine wsnew ?_ | with_reducible refine wsetItem ?_ | with_reducible refine wraise ?_ | with_reducible refine wfor ?_ | with_reducible refine wk ?_ | with_reducible refine wop ?_ | with_reducible refine wtand ?_ | with_reducible refine wtor ?_ | with_reducible refine wtnot ?_ | with_reducible refine wtoB ?_ | with_reducible refine wand ?_ | with_reducible refine wor ?_ | with_reducible refine wnot ?_ | with_reducible refine wite ?_ | with_reducible refine wchain ?_ | with_reducible refine wnil ?_ | with_reducible refine wcons ?_ | with_reducible refine wtup ?_ | with_reducible refine wlst ?_ | with_reducible refine wfrz ?_ | with_reducible refine wcel ?_ | with_reducible refine wcb ?_ | with_reducible refine wcall0 ?_ | with_reducible refine wcall ?_ | with_reducible refine widx ?_ | with_reducible refine wneg ?_ | with_reducible refine wisi ?_ | with_reducible refine wisc ?_ | with_reducible refine wval ?_ | with_reducible refine wmk ?_ | with_reducible refine wrev ?_ | with_reducible refine wup ?_ | with_reducible refine wenum ?_ | with_reducible refine wonone ?_ | with_reducible refine wosome ?_ | with_reducible refine wslice ?_ | with_reducible refine wlistF ?_ | with_reducible refine wlistRg ?_ | with_reducible refine wrange ?_ | with_reducible refine wseqI ?_ | with_reducible refine wzip ?_ | with_reducible refine wdct ?_ | with_reducible refine wdctB ?_ | with_reducible refine wdct0 ?_ | with_reducible refine wsetD ?_ | with_reducible refine wsnewD ?_ | with_reducible refine wcallF ?_ | with_reducible refine wputK ?_ | with_reducible refine windex ?_ | with_reducible refine wstarI ?_ | with_reducible refine wheard ?_ | with_reducible refine wyes ?_ | with_reducible refine wcomp ?_ | with_reducible refine wsplit ?_ | with_reducible refine wjoin ?_ | with_reducible refine wlenSet ?_ | with_reducible refine wfldO ?_ | with_reducible refine wprop ?_ | with_reducible refine wmeth ?_ | with_reducible refine winB ?_ | with_reducible refine wninB ?_ | with_reducible refine wlenO ?_ | with_reducible refine winO ?_ | with_reducible refine weqO ?_ | with_reducible refine wiso ?_ | with_reducible refine wstar ?_ | with_reducible refine wfld1 ?_ | with_reducible refine wasg ?_ | with_reducible refine wlenB (by with_unfolding_all exact rfl) ?_ | with_reducible refine wlenV (by with_unfolding_all exact rfl) ?_ | with_reducible refine wvarB (by with_unfolding_all exact rfl) ?_ | with_reducible refine wvarX (by with_unfolding_all exact rfl) ?_ | with_reducible refine wvarXB (by with_unfolding_all exact rfl) (by with_unfolding_all exact rfl) ?_ | with_reducible refine wupd (by with_unfolding_all exact rfl) ?_ | with_reducible refine wbld (by with_unfolding_all exact rfl) ?_ | with_reducible refine wblk (by with_unfolding_all exact rfl) ?_ | with_reducible refine wmade (by with_unfolding_all exact rfl) ?_ | with_reducible refine exB ?_ | with_reducible refine exI ?_ | with_reducible refine exS ?_ | with_reducible refine exO ?_ | with_reducible refine exG (by with_unfolding_all exact rfl) ?_ | ((with_reducible apply exM); exact rfl) | (with_reducible refine ⟨fun _ => ?_, b_tf⟩) | (with_reducible refine ⟨b_ft, fun _ => ?_⟩) | (with_reducible refine ⟨b_nt, fun _ => ?_⟩) | (with_reducible refine ⟨fun _ => ?_, b_nf⟩) | ((with_reducible apply exC); (simp only [List.map_cons, addD, subD, cmpI, isND, isNotND, lenD, absD, intD, tupleD, maxD, minD, listS, revD, enumS, seqD, zipS, zipD, ixS, idxD, at0, at1, at2, eqI, neI, eqBl, neBl, beq_self_eq_true, Bool.not_true, Bool.not_false, eqS, neS, eqL0, neL0, eqT0, neT0, List.isEmpty_cons, List.isEmpty_nil, iscD, valD, istOf, List.getD_cons_zero, List.getD_cons_succ, List.length_cons, List.length_nil, appendK, sliceD, Option.map_some, Option.bind_some, isi_int_non, isi_int_bl, isi_int_int, isi_int_str, isi_int_tup, isi_int_lst, isi_int_dct, isi_bool_non, isi_bool_bl, isi_bool_int, isi_bool_str, isi_bool_tup, isi_bool_lst, isi_bool_dct, isi_tuple_non, isi_tuple_bl, isi_tuple_int, isi_tuple_str, isi_tuple_tup, isi_tuple_lst, isi_tuple_dct, isi_str_non, isi_str_bl, isi_str_int, isi_str_str, isi_str_tup, isi_str_lst, isi_str_dct, isi_list_non, isi_list_bl, isi_list_int, isi_list_str, isi_list_tup, isi_list_lst, isi_list_dct, isi_dict_non, isi_dict_bl, isi_dict_int, isi_dict_str, isi_dict_tup, isi_dict_lst, isi_dict_dct]; exact rfl)) | (refine ⟨(by rfl : small _ = true), ?_⟩) | (refine ⟨(by rfl : rhsO _ _ = true), ?_⟩) | (refine ⟨(by rfl : List.length _ = List.length _), ?_⟩)))

def oddL : List D := [.non, .bl true, .bl false, .int 0, .int 1, .int (-1), .int 7, .int 100000000, .str "", .str "a", .str "nosuch", .str "told", .tup [], .lst [], .dct [] [], .tup [.int 0], .tup [.tup []], .lst [.int 0], .tup [.int 1, .int 0],
  .tup [.str "a"], .tup [.str "a", .str "b"], .tup [.int 1, .int 2], .tup [.int 2, .int 4], .tup [.int 0, .int 1], .tup [.tup [.int 1, .int 1]], .tup [.non], .dct [.str "a"] [.int 1], .str "A", .tup [.str "told", .tup []], .str "1"]
theorem r_oddL {S : Sto} {n k : Nat} (h : PotAt S n k) (hk : k < 1000000) : Res (f__law_odd [.cel n] S) (fun d S' => d ∈ oddL ∧ PotAt S' n (k + 1)) nE := by
  refine wbody rfl ?_
  unfold g__law_odd
  repeat' (first | done | fail)
  refine ⟨_, powK (by decide), ?_⟩
  repeat' (first | done | fail)
  refine (r_of h hk (by simp) (by simp)).use fun d S' ⟨hd, hp⟩ => ?_
  exact ⟨hd, hp⟩
end Z

set_option Elab.async false
set_option linter.all false
set_option maxRecDepth 100000
set_option maxHeartbeats 8000000
/-! PX: texts of nets, plain steps of all laws about changed nets -/
namespace Z
open PySem PySem.Spec PyProof.Rows L2 RZ TL
local macro_rules
  | `(tactic| done) => `(tactic| (first | ((with_reducible refine wseq ?_); try dsimp only [List.set_cons_zero, List.set_cons_succ, setAll, padE, hide, hideE, backE, List.getD, List.getElem?_cons_zero, List.getElem?_cons_succ, Option.getD_some, List.map_cons, List.map_nil, List.length_cons, List.length_nil, List.replicate, List.cons_append, List.nil_append, List.append_nil, Nat.reduceAdd, Nat.reduceSub]) | ((with_reducible refine wseqN ?_); try dsimp only [List.set_cons_zero, List.set_cons_succ, setAll, padE, hide, hideE, backE, List.getD, List.getElem?_cons_zero, List.getElem?_cons_succ, Option.getD_some, List.map_cons, List.map_nil, List.length_cons, List.length_nil, List.replicate, List.cons_append, List.nil_append, List.append_nil, Nat.reduceAdd, Nat.reduceSub]) | with_reducible refine wvar (by with_unfolding_all exact rfl) ?_ | with_reducible refine wnext ?_ | with_reducible refine wpass ?_ | with_reducible refine wret ?_ | with_reducible refine wif ?_ | with_reducible refine wexpr ?_ | with_reducible refine wset ?_ | with_reducible refine wsetB ?_ | with_reducible refine wpar ?_ | with_reducible refine wsnil ?_ | with_reducible refine wsval ?_ | with_reducible refine wsnew ?_ | with_reducible refine wsetItem ?_ | with_reducible refine wraise ?_ | with_reducible refine wfor ?_ | with_reducible refine wk ?_ | with_reducible refine wop ?_ | with_reducible refine wtand ?_ | with_reducible refine wtor ?_ | with_reducible refine wtnot ?_ | with_reducible refine wtoB ?_ | with_reducible refine wand ?_ | with_reducible refine wor ?_ | with_reducible refine wnot ?_ | with_reducible refine wite ?_ | with_reducible refine wchain ?_ | with_reducible refine wnil ?_ | with_reducible refine wcons ?_ | with_reducible refine wtup ?_ | with_reducible refine wlst ?_ | with_reducible refine wfrz ?_ | with_reducible refine wcel ?_ | with_reducible refine wcb ?_ | with_reducible refine wcall0 ?_ | with_reducible refine wcall ?_ | with_reducible refine widx ?_ | with_reducible refine wneg ?_ | with_reducible refine wisi ?_ | with_reducible refine wisc ?_ | with_reducible refine wval ?_ | with_reducible refine wmk ?_ | with_reducible refine wrev ?_ | with_reducible refine wup ?_ | with_reducible refine wenum ?_ | with_reducible refine wonone ?_ | with_reducible refine wosome ?_ | with_reducible refine wslice ?_ | with_reducible refine wlistF ?_ | with_reducible refine wlistRg ?_ | with_reducible refine wrange ?_ | with_reducible refine wseqI ?_ | with_reducible refine wzip ?_ | with_reducible refine wdct ?_ | with_reducible refine wdctB ?_ | with_reducible refine wdct0 ?_ | with_reducible refine wsetD ?_ | with_reducible refine wsnewD ?_ | with_reducible refine wcallF ?_ | with_reducible refine wputK ?_ | with_reducible refine windex ?_ | with_reducible refine wstarI ?_ | with_reducible refine wheard ?_ | with_reducible refine wyes ?_ | with_reducible refine wcomp ?_ | with_reducible refine wsplit ?_ | with_reducible refine wjoin ?_ | with_reducible refine wlenSet ?_ | with_reducible refine wfldO ?_ | with_reducible refine wprop ?_ | with_reducible refine wmeth ?_ | with_reducible refine winB ?_ | with_reducible refine wninB ?_ | with_reducible refine wlenO ?_ | with_reducible refine winO ?_ | with_reducible refine weqO ?_ | with_reducible refine wiso ?_ | with_reducible refine wstar ?_ | with_reducible refine wfld1 ?_ | with_reducible refine wasg ?_ | with_reducible refine wlenB (by with_unfolding_all exact rfl) ?_ | with_reducible refine wlenV (by with_unfolding_all exact rfl) ?_ | with_reducible refine wvarB (by with_unfolding_all exact rfl) ?_ | with_reducible refine wvarX (by with_unfolding_all exact rfl) ?_ | with_reducible refine wvarXB (by with_unfolding_all exact rfl) (by with_unfolding_all exact rfl) ?_ | with_reducible refine wupd (by with_unfolding_all exact rfl) ?_ | with_reducible refine wbld (by with_unfolding_all exact rfl) ?_ | with_reducible refine wblk (by with_unfolding_all exact rfl) ?_ | with_reducible refine wmade (by with_unfolding_all exact rfl) ?_ | with_reducible refine exB ?_ | with_reducible refine exI ?_ | with_reducible refine exS ?_ | with_reducible refine exO ?_ | with_reducible refine exG (by with_unfolding_all exact rfl) ?_ | ((with_reducible apply exM); exact rfl) | (with_reducible refine ⟨fun _ => ?_, b_tf⟩) | (with_reducible refine ⟨b_ft, fun _ => ?_⟩) | (with_reducible refine ⟨b_nt, fun _ => ?_⟩) | (with_reducible refine ⟨fun _ => ?_, b_nf⟩) | ((with_reducible apply exC); (simp only [List.map_cons, addD, subD, cmpI, isND, isNotND, lenD, absD, intD, tupleD, maxD, minD, listS, revD, enumS, seqD, zipS, zipD, ixS, idxD, at0, at1, at2, eqI, neI, eqBl, neBl, beq_self_eq_true, Bool.not_true, Bool.not_false, eqS, neS, eqL0, neL0, eqT0, neT0, List.isEmpty_cons, List.isEmpty_nil, iscD, valD, istOf, List.getD_cons_zero, List.getD_cons_succ, List.length_cons, List.length_nil, appendK, sliceD, Option.map_some, Option.bind_some, isi_int_non, isi_int_bl, isi_int_int, isi_int_str, isi_int_tup, isi_int_lst, isi_int_dct, isi_bool_non, isi_bool_bl, isi_bool_int, isi_bool_str, isi_bool_tup, isi_bool_lst, isi_bool_dct, isi_tuple_non, isi_tuple_bl, isi_tuple_int, isi_tuple_str, isi_tuple_tup, isi_tuple_lst, isi_tuple_dct, isi_str_non, isi_str_bl, isi_str_int, isi_str_str, isi_str_tup, isi_str_lst, isi_str_dct, isi_list_non, isi_list_bl, isi_list_int, isi_list_str, isi_list_tup, isi_list_lst, isi_list_dct, isi_dict_non, isi_dict_bl, isi_dict_int, isi_dict_str, isi_dict_tup, isi_dict_lst, isi_dict_dct]; exact rfl)) | (refine ⟨(by rfl : small _ = true), ?_⟩) | (refine ⟨(by rfl : rhsO _ _ = true), ?_⟩) | (refine ⟨(by rfl : List.length _ = List.length _), ?_⟩)))

theorem it_tx (l : List Str) : itemsD (tx l) = some (l.map .str) := rfl
theorem it_lx (l : List Str) : itemsD (lx l) = some (l.map .str) := rfl
theorem e_text_ofU {n : Net3} {w u : D} (S : Sto) (h : okNet n) (hi : itemsD w = some (n.ws.map .str)) (hu : seqD u = some (n.ts.map tx)) : f_text_of [tx n.ps, w, u] S = .ok (.str (textOf (linesOf n))) S := by
  have hw := h.words.2
  have hp : (("places" : Str) :: n.ps) ∈ linesOf n := by unfold linesOf; simp
  have hq : (("watchers" : Str) :: n.ws) ∈ linesOf n := by unfold linesOf; simp
  have jp : joinD " " (.lst (.str "places" :: n.ps.map .str)) = some (.str (lineOf ("places" :: n.ps))) := jn_lx (l := "places" :: n.ps) (a := 8) (k := 9) (hw _ hp).2 (hw _ hp).1 (by decide)
  have jw : joinD " " (.lst (.str "watchers" :: n.ws.map .str)) = some (.str (lineOf ("watchers" :: n.ws))) := jn_lx (l := "watchers" :: n.ws) (a := 8) (k := 9) (hw _ hq).2 (hw _ hq).1 (by decide)
  have lp : small (n.ps.length + 1) = true := smL (by have := h.p2; omega)
  have lw : small (n.ws.length + 1) = true := smL (by have := h.w2.length_le; have := h.p2; omega)
  have lt : n.ts.length ≤ 14 := h.t2
  refine Res.is (wbody rfl ?_)
  unfold g_text_of
  have hp2 := h.p2
  have hw2 := h.w2.length_le
  repeat' (first | with_reducible refine exC (it_tx _) ?_ | with_reducible refine exC (hi) ?_ | done | fail)
  refine ⟨smL (by simp; omega), ?_⟩
  rw [List.append_nil]
  repeat' (first | with_reducible refine exC (jp) ?_ | with_reducible refine exC (hi) ?_ | done | fail)
  refine ⟨smL (by simp; omega), ?_⟩
  rw [List.append_nil]
  repeat' (first | with_reducible refine exC (jw) ?_ | with_reducible refine exC (hu) ?_ | with_reducible refine exC (rfl) ?_ | done | fail)
  refine ⟨smL (by simp; omega), rfl, ?_⟩
  refine wcompM (inj := tx) (P := fun _ => true) (F := fun t => .str (lineOf ("tie" :: t))) n.ts (fun t ht => ?_) ?_
  · have htl : (("tie" : Str) :: t) ∈ linesOf n := by unfold linesOf; simp [ht]
    have jt : joinD " " (.lst (.str "tie" :: t.map .str)) = some (.str (lineOf ("tie" :: t))) := jn_lx (l := "tie" :: t) (a := 8) (k := 9) (hw _ htl).2 (hw _ htl).1 (by decide)
    have := (hw _ htl).1
    refine ⟨_, rfl, wyes ⟨rfl, fun _ => ?_, fun h => nomatch h⟩⟩
    repeat' (first | with_reducible refine exC (it_tx _) ?_ | done | fail)
    refine ⟨smL (by simp at this ⊢; omega), ?_⟩
    rw [List.append_nil]
    repeat' (first | with_reducible refine exC (jt) ?_ | done | fail)
    exact ⟨rfl, rfl⟩
  · rw [filter_yes]
    have eL : n.ts.map (fun t => D.str (lineOf ("tie" :: t))) = ((n.ts.map (("tie" : Str) :: ·)).map lineOf).map D.str := by rw [List.map_map, List.map_map]; rfl
    rw [eL]
    have jf : joinD "\n" (lx (lineOf ("places" :: n.ps) :: lineOf ("watchers" :: n.ws) :: (n.ts.map (("tie" : Str) :: ·)).map lineOf)) = some (.str (textOf (linesOf n))) := by
      have hl := h.len
      refine jf_lx (l := (linesOf n).map lineOf) (a := 81) (k := 16) (fun w hw' => ?_) (by simpa using hl) (by decide)
      obtain ⟨l, hl, rfl⟩ := List.mem_map.mp hw'
      exact line_len (hw l hl)
    repeat' (first | with_reducible refine exC (it_lx _) ?_ | with_reducible refine exC (rfl) ?_ | done | fail)
    refine ⟨smL (by simp; omega), ?_⟩
    rw [List.append_nil]
    exact ⟨_, jf, rfl, rfl⟩
theorem e_text_of {n : Net3} {w : D} (S : Sto) (h : okNet n) (hi : itemsD w = some (n.ws.map .str)) : f_text_of [tx n.ps, w, .tup (n.ts.map tx)] S = .ok (.str (textOf (linesOf n))) S := e_text_ofU S h hi rfl
theorem okNet.wnd {n : Net3} (h : okNet n) : n.ws.Nodup := h.w2.nodup h.pd
theorem filter_one : ∀ {l : List Str} (x : Str), l.Nodup → l.length ≤ (l.filter (fun y => !decide (y = x))).length + 1
  | [], x, _ => by simp
  | a :: l, x, h => by
    have ⟨h1, h2⟩ := List.nodup_cons.mp h
    by_cases e : a = x
    · subst e
      have e2 : l.filter (fun y => !decide (y = a)) = l := List.filter_eq_self.mpr fun y hy => by
        simp only [Bool.not_eq_true', decide_eq_false_iff_not]
        intro e; exact h1 (e ▸ hy)
      rw [List.filter_cons_of_neg (by simp), e2]
      simp
    · rw [List.filter_cons_of_pos (by simp [e])]
      have := filter_one x h2
      simp only [List.length_cons]
      omega
theorem nin_tx {x : Str} {l : List Str} (hx : asc x = true) (hl : ∀ y ∈ l, asc y = true) : ninL (.str x) (tx l) = some (.bl (!decide (x ∈ l))) := by
  have h := in_tx hx hl
  unfold inX at h
  obtain ⟨b, h1, h2⟩ := Option.map_eq_some_iff.mp h
  show (inB (.str x) (tx l)).map _ = _
  rw [h1]
  cases h2
  rfl
theorem nin_lx {x : Str} {l : List Str} (hx : asc x = true) (hl : ∀ y ∈ l, asc y = true) : ninL (.str x) (lx l) = some (.bl (!decide (x ∈ l))) := by
  have h := in_lx hx hl
  unfold inX at h
  obtain ⟨b, h1, h2⟩ := Option.map_eq_some_iff.mp h
  show (inB (.str x) (lx l)).map _ = _
  rw [h1]
  cases h2
  rfl
theorem e_NetW {n : Net3} (S : Sto) (h : okNet n) : f_Net___init__ [.str (textOf (linesOf n))] S = .ok (netD (textOf (linesOf n)) n) S := by
  rw [e_Net S h.tx (by omega), h.net]
theorem VVs {x : Str} (h : asc x = true) : VV (.str x) := .inl ⟨by simp only [pl1]; exact h, by simp [dp], fun xs e => nomatch e⟩
theorem len_tx (l : List Str) : lenD [tx l] = some (.int l.length) := by
  show some (D.int (l.map D.str).length) = _
  rw [List.length_map]
theorem in_tiesU {p : List Str} {l : List (List Str)} (hp : ∀ x ∈ p, asc x = true) (hl : ∀ p ∈ l, ∀ x ∈ p, asc x = true) : inX (tx p) (.tup (l.map tx)) = some (.bl (decide (p ∈ l))) := in_ties hp hl
theorem nin_of {d e : D} {b : Bool} (h : inX d e = some (.bl b)) : ninX d e = some (.bl !b) := by
  unfold inX at h
  obtain ⟨b', h1, h2⟩ := Option.map_eq_some_iff.mp h
  show (inB d e).map _ = _
  rw [h1]
  cases h2
  rfl
theorem nin_ties {p : List Str} {l : List (List Str)} (hp : ∀ x ∈ p, asc x = true) (hl : ∀ p ∈ l, ∀ x ∈ p, asc x = true) : ninL (tx p) (.lst (l.map tx)) = some (.bl (!decide (p ∈ l))) := nin_of (in_ties hp hl)
theorem nin_tiesU {p : List Str} {l : List (List Str)} (hp : ∀ x ∈ p, asc x = true) (hl : ∀ p ∈ l, ∀ x ∈ p, asc x = true) : ninL (tx p) (.tup (l.map tx)) = some (.bl (!decide (p ∈ l))) := nin_of (in_tiesU hp hl)
theorem wforC {t : Tg} {sf : DenS} {d : D} {ds : List D} {m : M} {N : M → Prop} {T : D → M → Prop} {E : Nat → D → M → Prop} (q : ∃ m1, t d m = some m1 ∧ RT (sf m1) (fun m2 => RT (forL t sf ds m2) N T E) T E) : RT (forL t sf (d :: ds) m) N T E := by
  obtain ⟨m1, e1, q⟩ := q
  unfold forL
  rw [e1]
  show RT (match sf m1 with | .nx m2 => _ | .ct m2 => _ | .bk m2 => _ | r => r) _ _ _
  cases e2 : sf m1 with
  | nx m2 => rw [e2] at q; exact q
  | rt _ _ => rw [e2] at q; exact q
  | exc _ _ _ => rw [e2] at q; exact q
  | bk _ => rw [e2] at q; exact q.elim
  | ct _ => rw [e2] at q; exact q.elim
  | bad => rw [e2] at q; exact q.elim
theorem wforN {t : Tg} {sf : DenS} {m : M} {N : M → Prop} {T : D → M → Prop} {E : Nat → D → M → Prop} (q : N m) : RT (forL t sf [] m) N T E := q
end Z

set_option Elab.async false
set_option linter.all false
set_option maxRecDepth 100000
set_option maxHeartbeats 8000000
/-! QX: the law's own looks -/
namespace Z
open PySem PySem.Spec PyProof.Rows L2 RZ TL
local macro_rules
  | `(tactic| done) => `(tactic| (first | ((with_reducible refine wseq ?_); try dsimp only [List.set_cons_zero, List.set_cons_succ, setAll, padE, hide, hideE, backE, List.getD, List.getElem?_cons_zero, List.getElem?_cons_succ, Option.getD_some, List.map_cons, List.map_nil, List.length_cons, List.length_nil, List.replicate, List.cons_append, List.nil_append, List.append_nil, Nat.reduceAdd, Nat.reduceSub]) | ((with_reducible refine wseqN ?_); try dsimp only [List.set_cons_zero, List.set_cons_succ, setAll, padE, hide, hideE, backE, List.getD, List.getElem?_cons_zero, List.getElem?_cons_succ, Option.getD_some, List.map_cons, List.map_nil, List.length_cons, List.length_nil, List.replicate, List.cons_append, List.nil_append, List.append_nil, Nat.reduceAdd, Nat.reduceSub]) | with_reducible refine wvar (by with_unfolding_all exact rfl) ?_ | with_reducible refine wnext ?_ | with_reducible refine wpass ?_ | with_reducible refine wret ?_ | with_reducible refine wif ?_ | with_reducible refine wexpr ?_ | with_reducible refine wset ?_ | with_reducible refine wsetB ?_ | with_reducible refine wpar ?_ | with_reducible refine wsnil ?_ | with_reducible refine wsval ?_ | with_reducible refine wsnew ?_ | with_reducible refine wsetItem ?_ | with_reducible refine wraise ?_ | with_reducible refine wfor ?_ | with_reducible refine wk ?_ | with_reducible refine wop ?_ | with_reducible refine wtand ?_ | with_reducible refine wtor ?_ | with_reducible refine wtnot ?_ | with_reducible refine wtoB ?_ | with_reducible refine wand ?_ | with_reducible refine wor ?_ | with_reducible refine wnot ?_ | with_reducible refine wite ?_ | with_reducible refine wchain ?_ | with_reducible refine wnil ?_ | with_reducible refine wcons ?_ | with_reducible refine wtup ?_ | with_reducible refine wlst ?_ | with_reducible refine wfrz ?_ | with_reducible refine wcel ?_ | with_reducible refine wcb ?_ | with_reducible refine wcall0 ?_ | with_reducible refine wcall ?_ | with_reducible refine widx ?_ | with_reducible refine wneg ?_ | with_reducible refine wisi ?_ | with_reducible refine wisc ?_ | with_reducible refine wval ?_ | with_reducible refine wmk ?_ | with_reducible refine wrev ?_ | with_reducible refine wup ?_ | with_reducible refine wenum ?_ | with_reducible refine wonone ?_ | with_reducible refine wosome ?_ | with_reducible refine wslice ?_ | with_reducible refine wlistF ?_ | with_reducible refine wlistRg ?_ | with_reducible refine wrange ?_ | with_reducible refine wseqI ?_ | with_reducible refine wzip ?_ | with_reducible refine wdct ?_ | with_reducible refine wdctB ?_ | with_reducible refine wdct0 ?_ | with_reducible refine wsetD ?_ | with_reducible refine wsnewD ?_ | with_reducible refine wcallF ?_ | with_reducible refine wputK ?_ | with_reducible refine windex ?_ | with_reducible refine wstarI ?_ | with_reducible refine wheard ?_ | with_reducible refine wyes ?_ | with_reducible refine wcomp ?_ | with_reducible refine wsplit ?_ | with_reducible refine wjoin ?_ | with_reducible refine wlenSet ?_ | with_reducible refine wfldO ?_ | with_reducible refine wprop ?_ | with_reducible refine wmeth ?_ | with_reducible refine winB ?_ | with_reducible refine wninB ?_ | with_reducible refine wlenO ?_ | with_reducible refine winO ?_ | with_reducible refine weqO ?_ | with_reducible refine wiso ?_ | with_reducible refine wstar ?_ | with_reducible refine wfld1 ?_ | with_reducible refine wasg ?_ | with_reducible refine wlenB (by with_unfolding_all exact rfl) ?_ | with_reducible refine wlenV (by with_unfolding_all exact rfl) ?_ | with_reducible refine wvarB (by with_unfolding_all exact rfl) ?_ | with_reducible refine wvarX (by with_unfolding_all exact rfl) ?_ | with_reducible refine wvarXB (by with_unfolding_all exact rfl) (by with_unfolding_all exact rfl) ?_ | with_reducible refine wupd (by with_unfolding_all exact rfl) ?_ | with_reducible refine wbld (by with_unfolding_all exact rfl) ?_ | with_reducible refine wblk (by with_unfolding_all exact rfl) ?_ | with_reducible refine wmade (by with_unfolding_all exact rfl) ?_ | with_reducible refine exB ?_ | with_reducible refine exI ?_ | with_reducible refine exS ?_ | with_reducible refine exO ?_ | with_reducible refine exG (by with_unfolding_all exact rfl) ?_ | ((with_reducible apply exM); exact rfl) | (with_reducible refine ⟨fun _ => ?_, b_tf⟩) | (with_reducible refine ⟨b_ft, fun _ => ?_⟩) | (with_reducible refine ⟨b_nt, fun _ => ?_⟩) | (with_reducible refine ⟨fun _ => ?_, b_nf⟩) | ((with_reducible apply exC); (simp only [List.map_cons, addD, subD, cmpI, isND, isNotND, lenD, absD, intD, tupleD, maxD, minD, listS, revD, enumS, seqD, zipS, zipD, ixS, idxD, at0, at1, at2, eqI, neI, eqBl, neBl, beq_self_eq_true, Bool.not_true, Bool.not_false, eqS, neS, eqL0, neL0, eqT0, neT0, List.isEmpty_cons, List.isEmpty_nil, iscD, valD, istOf, List.getD_cons_zero, List.getD_cons_succ, List.length_cons, List.length_nil, appendK, sliceD, Option.map_some, Option.bind_some, isi_int_non, isi_int_bl, isi_int_int, isi_int_str, isi_int_tup, isi_int_lst, isi_int_dct, isi_bool_non, isi_bool_bl, isi_bool_int, isi_bool_str, isi_bool_tup, isi_bool_lst, isi_bool_dct, isi_tuple_non, isi_tuple_bl, isi_tuple_int, isi_tuple_str, isi_tuple_tup, isi_tuple_lst, isi_tuple_dct, isi_str_non, isi_str_bl, isi_str_int, isi_str_str, isi_str_tup, isi_str_lst, isi_str_dct, isi_list_non, isi_list_bl, isi_list_int, isi_list_str, isi_list_tup, isi_list_lst, isi_list_dct, isi_dict_non, isi_dict_bl, isi_dict_int, isi_dict_str, isi_dict_tup, isi_dict_lst, isi_dict_dct]; exact rfl)) | (refine ⟨(by rfl : small _ = true), ?_⟩) | (refine ⟨(by rfl : rhsO _ _ = true), ?_⟩) | (refine ⟨(by rfl : List.length _ = List.length _), ?_⟩)))

theorem up_app {ks k2 : List Key} {xs ks2 ds2 : List D} (hk : keysL ks2 = some k2) (hn : (ks ++ k2).Nodup) (h1 : ks.length = xs.length) (h2 : k2.length = ds2.length) (h3 : small (ks.length + k2.length) = true) : updB ks xs (.dct ks2 ds2) = some (ks ++ k2, xs ++ ds2) := by
  simp only [updB, hk, Option.bind_some]
  rw [if_pos ⟨hn, h1, h2, h3⟩]
theorem up1 (a b c d e : D) : updB [.inr "place", .inr "watches", .inr "few"] [a, b, c] (.dct [.str "none", .str "tie"] [d, e]) = some ([.inr "place", .inr "watches", .inr "few", .inr "none", .inr "tie"], [a, b, c, d, e]) :=
  up_app (k2 := [.inr "none", .inr "tie"]) rfl (by decide +kernel) rfl rfl (by decide)
theorem up2 (a b c d e f g : D) : updB [.inr "place", .inr "watches", .inr "few", .inr "none", .inr "tie"] [a, b, c, d, e] (.dct [.str "full", .str "last"] [f, g]) = some ([.inr "place", .inr "watches", .inr "few", .inr "none", .inr "tie", .inr "full", .inr "last"], [a, b, c, d, e, f, g]) :=
  up_app (k2 := [.inr "full", .inr "last"]) rfl (by decide +kernel) rfl rfl (by decide)
theorem eqSS (a : Str) : eqX (.str a) (.str a) = some (.bl true) := by rw [eqS]; simp
theorem e_ref_place {v : D} {r : Str} (S : Sto) (hr : reprX [v] = some (.str r)) : f__law_is_refused [.obj 2 [v], .str "place", v] S = .ok (.bl true) S := by
  refine Res.is (wbody rfl ?_)
  unfold g__law_is_refused
  repeat' (first | done | fail)
  refine ⟨_, _, _, (by with_unfolding_all exact rfl), up1 _ _ _ _ _, ?_⟩
  repeat' (first | done | fail)
  refine ⟨_, _, _, (by with_unfolding_all exact rfl), up2 _ _ _ _ _ _ _, ?_⟩
  repeat' (first | with_reducible refine exC (hr) ?_ | with_reducible refine exC (eqSS _) ?_ | done | fail)
  exact ⟨rfl, rfl⟩
theorem e_ref_watches {v : D} {r : Str} (S : Sto) (hr : reprX [v] = some (.str r)) : f__law_is_refused [.obj 3 [v], .str "watches", v] S = .ok (.bl true) S := by
  refine Res.is (wbody rfl ?_)
  unfold g__law_is_refused
  repeat' (first | done | fail)
  refine ⟨_, _, _, (by with_unfolding_all exact rfl), up1 _ _ _ _ _, ?_⟩
  repeat' (first | done | fail)
  refine ⟨_, _, _, (by with_unfolding_all exact rfl), up2 _ _ _ _ _ _ _, ?_⟩
  repeat' (first | with_reducible refine exC (hr) ?_ | with_reducible refine exC (eqSS _) ?_ | done | fail)
  exact ⟨rfl, rfl⟩
theorem e_ref_few {v : D} {r : Str} (S : Sto) (hr : reprX [v] = some (.str r)) : f__law_is_refused [.obj 5 [v], .str "few", v] S = .ok (.bl true) S := by
  refine Res.is (wbody rfl ?_)
  unfold g__law_is_refused
  repeat' (first | done | fail)
  refine ⟨_, _, _, (by with_unfolding_all exact rfl), up1 _ _ _ _ _, ?_⟩
  repeat' (first | done | fail)
  refine ⟨_, _, _, (by with_unfolding_all exact rfl), up2 _ _ _ _ _ _ _, ?_⟩
  repeat' (first | with_reducible refine exC (hr) ?_ | with_reducible refine exC (eqSS _) ?_ | done | fail)
  exact ⟨rfl, rfl⟩
theorem e_ref_none {v : D} {r : Str} (S : Sto) (hr : reprX [v] = some (.str r)) : f__law_is_refused [.obj 4 [v], .str "none", v] S = .ok (.bl true) S := by
  refine Res.is (wbody rfl ?_)
  unfold g__law_is_refused
  repeat' (first | done | fail)
  refine ⟨_, _, _, (by with_unfolding_all exact rfl), up1 _ _ _ _ _, ?_⟩
  repeat' (first | done | fail)
  refine ⟨_, _, _, (by with_unfolding_all exact rfl), up2 _ _ _ _ _ _ _, ?_⟩
  repeat' (first | with_reducible refine exC (hr) ?_ | with_reducible refine exC (eqSS _) ?_ | done | fail)
  exact ⟨rfl, rfl⟩
theorem e_ref_tie {v : D} {r : Str} (S : Sto) (hr : reprX [v] = some (.str r)) : f__law_is_refused [.obj 6 [v], .str "tie", v] S = .ok (.bl true) S := by
  refine Res.is (wbody rfl ?_)
  unfold g__law_is_refused
  repeat' (first | done | fail)
  refine ⟨_, _, _, (by with_unfolding_all exact rfl), up1 _ _ _ _ _, ?_⟩
  repeat' (first | done | fail)
  refine ⟨_, _, _, (by with_unfolding_all exact rfl), up2 _ _ _ _ _ _ _, ?_⟩
  repeat' (first | with_reducible refine exC (hr) ?_ | with_reducible refine exC (eqSS _) ?_ | done | fail)
  exact ⟨rfl, rfl⟩
theorem e_ref_full {v : D} {r : Str} (S : Sto) (hr : reprX [v] = some (.str r)) : f__law_is_refused [.obj 7 [v], .str "full", v] S = .ok (.bl true) S := by
  refine Res.is (wbody rfl ?_)
  unfold g__law_is_refused
  repeat' (first | done | fail)
  refine ⟨_, _, _, (by with_unfolding_all exact rfl), up1 _ _ _ _ _, ?_⟩
  repeat' (first | done | fail)
  refine ⟨_, _, _, (by with_unfolding_all exact rfl), up2 _ _ _ _ _ _ _, ?_⟩
  repeat' (first | with_reducible refine exC (hr) ?_ | with_reducible refine exC (eqSS _) ?_ | done | fail)
  exact ⟨rfl, rfl⟩
theorem e_ref_last {v : D} {r : Str} (S : Sto) (hr : reprX [v] = some (.str r)) : f__law_is_refused [.obj 8 [v], .str "last", v] S = .ok (.bl true) S := by
  refine Res.is (wbody rfl ?_)
  unfold g__law_is_refused
  repeat' (first | done | fail)
  refine ⟨_, _, _, (by with_unfolding_all exact rfl), up1 _ _ _ _ _, ?_⟩
  repeat' (first | done | fail)
  refine ⟨_, _, _, (by with_unfolding_all exact rfl), up2 _ _ _ _ _ _ _, ?_⟩
  repeat' (first | with_reducible refine exC (hr) ?_ | with_reducible refine exC (eqSS _) ?_ | done | fail)
  exact ⟨rfl, rfl⟩
theorem e_is_place {n : Net3} {v : D} (S : Sto) (h : okNet n) (hv : VV v) : f__law_is_place [loreD n, v] S = .ok (.bl (isPl n.ps v)) S := by
  refine Res.is (wbody rfl ?_)
  unfold g__law_is_place
  rcases hv with hv | ⟨ks, vs, rfl⟩
  · cases v with
    | str x =>
      have hx : asc x = true := VV.str (.inl hv)
      repeat' (first | with_reducible refine exC (dixP n) ?_ | with_reducible refine exC (in_lx hx h.asc) ?_ | done | fail)
      exact ⟨rfl, rfl⟩
    | dct _ _ => have := hv.p; simp [pl1] at this
    | cel _ => have := hv.p; simp [pl1] at this
    | obj _ _ => have := hv.p; simp [pl1] at this
    | scr _ => have := hv.p; simp [pl1] at this
    | ins _ _ => have := hv.p; simp [pl1] at this
    | _ =>
      repeat' (first | done | fail)
      exact ⟨rfl, rfl⟩
  · repeat' (first | done | fail)
    exact ⟨rfl, rfl⟩
theorem e__law_withT {n : Net3} {ws : List Str} {ts : List (List Str)} (S : Sto) (h : okNet n) (hw : ∀ y ∈ ws, asc y = true) : f__law_with [loreD n, lx ws, .lst (ts.map tx)] S = .ok (loreD ⟨n.ps, inSeq n.ps ws, ts⟩) S := by
  have hp2 := h.p2
  have e := e__law_made (ps := n.ps) (ws := ws) (ts := ts) S h.asc hw (by omega)
  refine Res.is (wbody rfl ?_)
  unfold g__law_with
  repeat' (first | with_reducible refine exC (dixP n) ?_ | done | dsimp only [List.cons_append, List.nil_append] | with_reducible refine Res.eq (e) ?_ | fail)
  exact ⟨rfl, rfl⟩
theorem isPl_str {ps : List Str} {v : D} (h : isPl ps v = true) : ∃ x, v = .str x ∧ x ∈ ps := by
  cases v with
  | str x => exact ⟨x, rfl, of_decide_eq_true h⟩
  | _ => cases h
theorem len_lx (l : List Str) : lenD [lx l] = some (.int l.length) := by
  show some (D.int (l.map D.str).length) = _
  rw [List.length_map]
end Z

set_option Elab.async false
set_option linter.all false
set_option maxRecDepth 100000
set_option maxHeartbeats 8000000
/-! RX: values that may be handed in -/
namespace Z
open PySem PySem.Spec PyProof.Rows L2 RZ TL
theorem gd_str {x : Str} (ha : asc x = true) (hl : x.length ≤ 100) : gd 20 (.str x) = true := by
  simp only [gd, txB, Bool.and_eq_true, decide_eq_true_eq]
  exact ⟨by omega, ha⟩
theorem okNet.l8 {n : Net3} (h : okNet n) : ∀ x ∈ n.ps, x.length ≤ 100 := fun x hx => by have := (okName_word (List.all_eq_true.mp h.pn x hx)).2; omega
def rpOk (d : D) : Bool := match reprX [d] with
  | some (.str _) => true
  | _ => false
theorem rp_of {d : D} (h : rpOk d = true) : ∃ x, reprX [d] = some (.str x) := by
  unfold rpOk at h
  split at h
  · rename_i x e; exact ⟨x, e⟩
  · cases h
/-- a value that may be handed in -/
structure Vd (d : D) : Prop where
  v : VV d
  r : ∃ x, reprX [d] = some (.str x)
theorem Vd_odd {d : D} (h : d ∈ oddL) : Vd d := by
  refine ⟨?_, rp_of (List.all_eq_true.mp (show oddL.all rpOk = true by decide +kernel) d h)⟩
  have key : oddL.all (fun d => match d with | .dct _ _ => true | .tup xs => pl1 (.tup xs) && (decide (dp (.tup xs) ≤ 60) && decide (xs.length ≤ 10000)) | d => pl1 d && decide (dp d ≤ 60)) = true := by decide +kernel
  have := List.all_eq_true.mp key d h
  cases d with
  | dct ks vs => exact .inr ⟨ks, vs, rfl⟩
  | tup xs =>
    simp only [Bool.and_eq_true, decide_eq_true_eq] at this
    exact .inl ⟨this.1, this.2.1, fun ys e => by cases e; exact this.2.2⟩
  | _ =>
    simp only [Bool.and_eq_true, decide_eq_true_eq] at this
    exact .inl ⟨this.1, this.2, fun ys e => nomatch e⟩
theorem Vd_str {x : Str} (ha : asc x = true) (hl : x.length ≤ 100) : Vd (.str x) := by
  refine ⟨VVs ha, gd_repr (b := 20) (by decide) (gd_str ha hl) ?_ (by simp [dp])⟩
  simp only [wt]
  omega
theorem Vd_tup {x : Str} (ha : asc x = true) (hl : x.length ≤ 100) : Vd (.tup [.str x]) := by
  refine ⟨.inl ⟨by simp only [pl1, pl1s, Bool.and_eq_true]; exact ⟨ha, trivial⟩, by simp [dp, dps], fun xs e => by cases e; simp⟩, gd_repr (b := 20) (by decide) ?_ ?_ (by simp [dp, dps])⟩
  · simp only [gd, gds, Bool.and_eq_true]
    exact ⟨gd_str ha hl, trivial⟩
  · simp only [wt, wts]
    omega
theorem Vd_lst {x : Str} (ha : asc x = true) (hl : x.length ≤ 100) : Vd (.lst [.str x]) := by
  refine ⟨.inl ⟨by simp only [pl1, pl1s, Bool.and_eq_true]; exact ⟨ha, trivial⟩, by simp [dp, dps], fun xs e => nomatch e⟩, gd_repr (b := 20) (by decide) ?_ ?_ (by simp [dp, dps])⟩
  · simp only [gd, gds, Bool.and_eq_true]
    exact ⟨gd_str ha hl, trivial⟩
  · simp only [wt, wts]
    omega
theorem ne_tx {l : List Str} (h : ∀ x ∈ l, asc x = true) : neX (tx l) (tx l) = some (.bl false) := by
  cases l with
  | nil => rfl
  | cons x l => exact ne_refl (by simp only [pl1]; exact pl_map h) (by simp only [dp, dp_map]; omega) (by simp)
theorem tup_lx {l : List Str} : tupleD [lx l] = some (tx l) := rfl
end Z

set_option Elab.async false
set_option linter.all false
set_option maxRecDepth 100000
set_option maxHeartbeats 8000000
/-! P08: ties put in and taken out -/
namespace Z
open PySem PySem.Spec PyProof.Rows L2 RZ TL
local macro_rules
  | `(tactic| done) => `(tactic| (first | ((with_reducible refine wseq ?_); try dsimp only [List.set_cons_zero, List.set_cons_succ, setAll, padE, hide, hideE, backE, List.getD, List.getElem?_cons_zero, List.getElem?_cons_succ, Option.getD_some, List.map_cons, List.map_nil, List.length_cons, List.length_nil, List.replicate, List.cons_append, List.nil_append, List.append_nil, Nat.reduceAdd, Nat.reduceSub]) | ((with_reducible refine wseqN ?_); try dsimp only [List.set_cons_zero, List.set_cons_succ, setAll, padE, hide, hideE, backE, List.getD, List.getElem?_cons_zero, List.getElem?_cons_succ, Option.getD_some, List.map_cons, List.map_nil, List.length_cons, List.length_nil, List.replicate, List.cons_append, List.nil_append, List.append_nil, Nat.reduceAdd, Nat.reduceSub]) | with_reducible refine wvar (by with_unfolding_all exact rfl) ?_ | with_reducible refine wnext ?_ | with_reducible refine wpass ?_ | with_reducible refine wret ?_ | with_reducible refine wif ?_ | with_reducible refine wexpr ?_ | with_reducible refine wset ?_ | with_reducible refine wsetB ?_ | with_reducible refine wpar ?_ | with_reducible refine wsnil ?_ | with_reducible refine wsval ?_ | with_reducible refine wsnew ?_ | with_reducible refine wsetItem ?_ | with_reducible refine wraise ?_ | with_reducible refine wfor ?_ | with_reducible refine wk ?_ | with_reducible refine wop ?_ | with_reducible refine wtand ?_ | with_reducible refine wtor ?_ | with_reducible refine wtnot ?_ | with_reducible refine wtoB ?_ | with_reducible refine wand ?_ | with_reducible refine wor ?_ | with_reducible refine wnot ?_ | with_reducible refine wite ?_ | with_reducible refine wchain ?_ | with_reducible refine wnil ?_ | with_reducible refine wcons ?_ | with_reducible refine wtup ?_ | with_reducible refine wlst ?_ | with_reducible refine wfrz ?_ | with_reducible refine wcel ?_ | with_reducible refine wcb ?_ | with_reducible refine wcall0 ?_ | with_reducible refine wcall ?_ | with_reducible refine widx ?_ | with_reducible refine wneg ?_ | with_reducible refine wisi ?_ | with_reducible refine wisc ?_ | with_reducible refine wval ?_ | with_reducible refine wmk ?_ | with_reducible refine wrev ?_ | with_reducible refine wup ?_ | with_reducible refine wenum ?_ | with_reducible refine wonone ?_ | with_reducible refine wosome ?_ | with_reducible refine wslice ?_ | with_reducible refine wlistF ?_ | with_reducible refine wlistRg ?_ | with_reducible refine wrange ?_ | with_reducible refine wseqI ?_ | with_reducible refine wzip ?_ | with_reducible refine wdct ?_ | with_reducible refine wdctB ?_ | with_reducible refine wdct0 ?_ | with_reducible refine wsetD ?_ | with_reducible refine wsnewD ?_ | with_reducible refine wcallF ?_ | with_reducible refine wputK ?_ | with_reducible refine windex ?_ | with_reducible refine wstarI ?_ | with_reducible refine wheard ?_ | with_reducible refine wyes ?_ | with_reducible refine wcomp ?_ | with_reducible refine wsplit ?_ | with_reducible refine wjoin ?_ | with_reducible refine wlenSet ?_ | with_reducible refine wfldO ?_ | with_reducible refine wprop ?_ | with_reducible refine wmeth ?_ | with_reducible refine winB ?_ | with_reducible refine wninB ?_ | with_reducible refine wlenO ?_ | with_reducible refine winO ?_ | with_reducible refine weqO ?_ | with_reducible refine wiso ?_ | with_reducible refine wstar ?_ | with_reducible refine wfld1 ?_ | with_reducible refine wasg ?_ | with_reducible refine wlenB (by with_unfolding_all exact rfl) ?_ | with_reducible refine wlenV (by with_unfolding_all exact rfl) ?_ | with_reducible refine wvarB (by with_unfolding_all exact rfl) ?_ | with_reducible refine wvarX (by with_unfolding_all exact rfl) ?_ | with_reducible refine wvarXB (by with_unfolding_all exact rfl) (by with_unfolding_all exact rfl) ?_ | with_reducible refine wupd (by with_unfolding_all exact rfl) ?_ | with_reducible refine wbld (by with_unfolding_all exact rfl) ?_ | with_reducible refine wblk (by with_unfolding_all exact rfl) ?_ | with_reducible refine wmade (by with_unfolding_all exact rfl) ?_ | with_reducible refine exB ?_ | with_reducible refine exI ?_ | with_reducible refine exS ?_ | with_reducible refine exO ?_ | with_reducible refine exG (by with_unfolding_all exact rfl) ?_ | ((with_reducible apply exM); exact rfl) | (with_reducible refine ⟨fun _ => ?_, b_tf⟩) | (with_reducible refine ⟨b_ft, fun _ => ?_⟩) | (with_reducible refine ⟨b_nt, fun _ => ?_⟩) | (with_reducible refine ⟨fun _ => ?_, b_nf⟩) | ((with_reducible apply exC); (simp only [List.map_cons, addD, subD, cmpI, isND, isNotND, lenD, absD, intD, tupleD, maxD, minD, listS, revD, enumS, seqD, zipS, zipD, ixS, idxD, at0, at1, at2, eqI, neI, eqBl, neBl, beq_self_eq_true, Bool.not_true, Bool.not_false, eqS, neS, eqL0, neL0, eqT0, neT0, List.isEmpty_cons, List.isEmpty_nil, iscD, valD, istOf, List.getD_cons_zero, List.getD_cons_succ, List.length_cons, List.length_nil, appendK, sliceD, Option.map_some, Option.bind_some, isi_int_non, isi_int_bl, isi_int_int, isi_int_str, isi_int_tup, isi_int_lst, isi_int_dct, isi_bool_non, isi_bool_bl, isi_bool_int, isi_bool_str, isi_bool_tup, isi_bool_lst, isi_bool_dct, isi_tuple_non, isi_tuple_bl, isi_tuple_int, isi_tuple_str, isi_tuple_tup, isi_tuple_lst, isi_tuple_dct, isi_str_non, isi_str_bl, isi_str_int, isi_str_str, isi_str_tup, isi_str_lst, isi_str_dct, isi_list_non, isi_list_bl, isi_list_int, isi_list_str, isi_list_tup, isi_list_lst, isi_list_dct, isi_dict_non, isi_dict_bl, isi_dict_int, isi_dict_str, isi_dict_tup, isi_dict_lst, isi_dict_dct]; exact rfl)) | (refine ⟨(by rfl : small _ = true), ?_⟩) | (refine ⟨(by rfl : rhsO _ _ = true), ?_⟩) | (refine ⟨(by rfl : List.length _ = List.length _), ?_⟩)))

def ordP (ps : List Str) (x y : Str) : List Str := if ps.idxOf x < ps.idxOf y then [x, y] else [y, x]
theorem idx_ne {a x : Str} {l : List Str} (h : a ≠ x) : (a :: l).idxOf x = l.idxOf x + 1 := by
  rw [List.idxOf_cons, beq_eq_false_iff_ne.mpr h]
  rfl
theorem filter_eq1 : ∀ {l : List Str} {y : Str}, l.Nodup → y ∈ l → l.filter (fun p => decide (p = y)) = [y]
  | [], y, _, h => nomatch h
  | a :: l, y, hn, h => by
    have ⟨h1, h2⟩ := List.nodup_cons.mp hn
    by_cases e : a = y
    · subst e
      rw [List.filter_cons_of_pos (by simp)]
      have e2 : l.filter (fun p => decide (p = a)) = [] := List.filter_eq_nil_iff.mpr fun p hp => by
        simp only [decide_eq_true_eq]
        intro e; exact h1 (e ▸ hp)
      rw [e2]
    · rw [List.filter_cons_of_neg (by simpa using e)]
      exact filter_eq1 h2 (by rcases List.mem_cons.mp h with h | h; exact absurd h.symm e; exact h)
theorem inSeq_ord : ∀ {ps : List Str} {x y : Str}, ps.Nodup → x ∈ ps → y ∈ ps → x ≠ y → inSeq ps [x, y] = ordP ps x y
  | [], x, y, _, h, _, _ => nomatch h
  | a :: l, x, y, hn, hx, hy, hne => by
    have ⟨h1, h2⟩ := List.nodup_cons.mp hn
    unfold inSeq ordP
    by_cases ex : a = x
    · subst ex
      have hy : y ∈ l := by rcases List.mem_cons.mp hy with h | h; exact absurd h.symm hne; exact h
      rw [List.filter_cons_of_pos (by simp)]
      have e2 : l.filter (fun p => decide (p ∈ [a, y])) = l.filter (fun p => decide (p = y)) := List.filter_congr fun p hp => by
        have : p ≠ a := fun e => h1 (e ▸ hp)
        simp [this]
      rw [e2, filter_eq1 h2 hy]
      rw [if_pos]
      simp only [List.idxOf_cons_self, idx_ne hne]
      omega
    · by_cases ey : a = y
      · subst ey
        have hx : x ∈ l := by rcases List.mem_cons.mp hx with h | h; exact absurd h hne; exact h
        rw [List.filter_cons_of_pos (by simp)]
        have e2 : l.filter (fun p => decide (p ∈ [x, a])) = l.filter (fun p => decide (p = x)) := List.filter_congr fun p hp => by
          have : p ≠ a := fun e => h1 (e ▸ hp)
          simp [this]
        rw [e2, filter_eq1 h2 hx]
        rw [if_neg]
        simp only [List.idxOf_cons_self, idx_ne ex]
        omega
      · have hx : x ∈ l := by rcases List.mem_cons.mp hx with h | h; exact absurd h.symm ex; exact h
        have hy : y ∈ l := by rcases List.mem_cons.mp hy with h | h; exact absurd h.symm ey; exact h
        rw [List.filter_cons_of_neg (by simp [ex, ey])]
        have ih := inSeq_ord h2 hx hy hne
        unfold inSeq ordP at ih
        rw [ih]
        simp only [idx_ne ex, idx_ne ey, Nat.succ_lt_succ_iff]
theorem inSeq_same {ps : List Str} {x : Str} (hn : ps.Nodup) (hx : x ∈ ps) : inSeq ps [x, x] = [x] := by
  unfold inSeq
  have e2 : ps.filter (fun p => decide (p ∈ [x, x])) = ps.filter (fun p => decide (p = x)) := List.filter_congr fun p hp => by simp
  rw [e2, filter_eq1 hn hx]
theorem ord_sub {ps : List Str} {x y : Str} (hn : ps.Nodup) (hx : x ∈ ps) (hy : y ∈ ps) (hne : x ≠ y) : (ordP ps x y).length = 2 ∧ (ordP ps x y).Sublist ps := by
  refine ⟨by unfold ordP; split <;> rfl, ?_⟩
  rw [← inSeq_ord hn hx hy hne]
  exact List.filter_sublist
theorem ord_mem {ps : List Str} {x y z : Str} (h : z ∈ ordP ps x y) : z = x ∨ z = y := by
  unfold ordP at h
  split at h <;> simp only [List.mem_cons, List.not_mem_nil, or_false] at h
  · exact h
  · exact h.symm
def withT (n : Net3) (x y : Str) : Net3 := ⟨n.ps, n.ws, n.ts ++ [ordP n.ps x y]⟩
def outT (n : Net3) (x y : Str) : Net3 := ⟨n.ps, n.ws, n.ts.filter (fun t => !decide (t = ordP n.ps x y))⟩
theorem okNet.withT {n : Net3} {x y : Str} (h : okNet n) (hx : x ∈ n.ps) (hy : y ∈ n.ps) (hne : x ≠ y) (ht : ordP n.ps x y ∉ n.ts) (h14 : n.ts.length ≠ 14) : okNet (withT n x y) := by
  refine ⟨h.p1, h.p2, h.pn, h.pd, h.w1, h.w2, by simp [Z.withT], ?_, ?_, ?_⟩
  · have := h.t2
    simp only [Z.withT, List.length_append, List.length_cons, List.length_nil]
    omega
  · intro t ht
    rcases List.mem_append.mp ht with ht | ht
    · exact h.tl t ht
    · rw [List.mem_singleton.mp ht]; exact ord_sub h.pd hx hy hne
  · exact List.nodup_append.mpr ⟨h.td, by simp, fun a ha b hb e => by rw [List.mem_singleton.mp hb] at e; exact ht (e ▸ ha)⟩
theorem filter_oneT : ∀ {l : List (List Str)} (x : List Str), l.Nodup → l.length ≤ (l.filter (fun y => !decide (y = x))).length + 1
  | [], x, _ => by simp
  | a :: l, x, h => by
    have ⟨h1, h2⟩ := List.nodup_cons.mp h
    by_cases e : a = x
    · subst e
      have e2 : l.filter (fun y => !decide (y = a)) = l := List.filter_eq_self.mpr fun y hy => by
        simp only [Bool.not_eq_true', decide_eq_false_iff_not]
        intro e; exact h1 (e ▸ hy)
      rw [List.filter_cons_of_neg (by simp), e2]
      simp
    · rw [List.filter_cons_of_pos (by simp [e])]
      have := filter_oneT x h2
      simp only [List.length_cons]
      omega
theorem okNet.outT {n : Net3} {x y : Str} (h : okNet n) (h1 : n.ts.length ≠ 1) : okNet (outT n x y) := by
  refine ⟨h.p1, h.p2, h.pn, h.pd, h.w1, h.w2, ?_, ?_, fun t ht => h.tl t (List.mem_filter.mp ht).1, h.td.sublist List.filter_sublist⟩
  · have := filter_oneT (ordP n.ps x y) h.td
    have h0 : n.ts.length ≠ 0 := fun e => h.t1 (List.length_eq_zero_iff.mp e)
    intro e
    have e2 : (n.ts.filter (fun t => !decide (t = ordP n.ps x y))).length = 0 := by rw [show n.ts.filter _ = [] from e]; rfl
    omega
  · have := h.t2
    have := List.length_filter_le (fun t => !decide (t = ordP n.ps x y)) n.ts
    show (n.ts.filter _).length ≤ 14
    omega
theorem e_pair_of {ps : List Str} {x y : Str} (S : Sto) (hp : ∀ z ∈ ps, asc z = true) (hl : ps.length ≤ 1000) (hx : x ∈ ps) (hy : y ∈ ps) : f_pair_of [tx ps, .str x, .str y] S = .ok (tx (inSeq ps [x, y])) S := by
  have e1 := e_check_place (v := .str x) (ps := ps) S (VVs (hp x hx)) hp (by simp [isPl, hx])
  have e2 := e_check_place (v := .str y) (ps := ps) S (VVs (hp y hy)) hp (by simp [isPl, hy])
  have e3 : f_in_sequence [tx ps, .tup [.str x, .str y]] S = _ := e_in_sequence (ps := ps) (l := [x, y]) S hp (by omega) (fun z hz => by
    simp only [List.mem_cons, List.not_mem_nil, or_false] at hz
    rcases hz with rfl | rfl
    · exact hp _ hx
    · exact hp _ hy)
  refine Res.is (wbody rfl ?_)
  unfold g_pair_of
  repeat' (first | done | dsimp only [List.cons_append, List.nil_append] | with_reducible refine Res.eq (e1) ?_ | with_reducible refine Res.eq (e2) ?_ | with_reducible refine Res.eq (e3) ?_ | fail)
  exact ⟨rfl, rfl⟩
theorem e_pair_ofX {ps : List Str} {v u : D} (S : Sto) (hp : ∀ z ∈ ps, asc z = true) (hv : VV v) (h : isPl ps v = false) : f_pair_of [tx ps, v, u] S = .exc 2 v S := by
  refine Res.isExc (wbody rfl ?_)
  unfold g_pair_of
  repeat' (first | done | fail)
  exact Res.exq (e_check_placeX _ hv hp h) ⟨rfl, rfl, rfl⟩
theorem e_pair_ofY {ps : List Str} {v : D} {x : Str} (S : Sto) (hp : ∀ z ∈ ps, asc z = true) (hx : x ∈ ps) (hv : VV v) (h : isPl ps v = false) : f_pair_of [tx ps, .str x, v] S = .exc 2 v S := by
  have e1 := e_check_place (v := .str x) (ps := ps) S (VVs (hp x hx)) hp (by simp [isPl, hx])
  refine Res.isExc (wbody rfl ?_)
  unfold g_pair_of
  repeat' (first | done | dsimp only [List.cons_append, List.nil_append] | with_reducible refine Res.eq (e1) ?_ | fail)
  exact Res.exq (e_check_placeX _ hv hp h) ⟨rfl, rfl, rfl⟩
theorem pairA {n : Net3} {x y : Str} (h : okNet n) : ∀ z ∈ inSeq n.ps [x, y], asc z = true := fun z hz => h.asc z (List.mem_filter.mp hz).1
theorem len_ts (l : List (List Str)) : lenD [.tup (l.map tx)] = some (.int l.length) := by
  show some (D.int (l.map tx).length) = _
  rw [List.length_map]
theorem e_withT {t : Str} {n : Net3} {x y : Str} (S : Sto) (h : okNet n) (hx : x ∈ n.ps) (hy : y ∈ n.ps) (hne : x ≠ y) (ht : ordP n.ps x y ∉ n.ts) (h14 : n.ts.length ≠ 14) : f_Net_with_tie [netD t n, .str x, .str y] S = .ok (netD (textOf (linesOf (withT n x y))) (withT n x y)) S := by
  have hp2 := h.p2
  have ht2 := h.t2
  have e1 := e_pair_of S h.asc (by omega) hx hy
  have ea : ∀ z ∈ ordP n.ps x y, asc z = true := fun z hz => h.asc z ((ord_sub h.pd hx hy hne).2.subset hz)
  rw [inSeq_ord h.pd hx hy hne] at e1
  have N := h.withT hx hy hne ht h14
  have e3 : f_text_of [tx n.ps, tx n.ws, .tup (n.ts.map tx ++ [tx (ordP n.ps x y)])] S = _ := e_text_ofU (n := withT n x y) (w := tx n.ws) (u := .tup (n.ts.map tx ++ [tx (ordP n.ps x y)])) S N (it_tx _) (by show some (n.ts.map tx ++ [tx (ordP n.ps x y)]) = some ((n.ts ++ [ordP n.ps x y]).map tx); rw [List.map_append]; rfl)
  have e4 := e_NetW S N
  refine Res.is (wbody rfl ?_)
  unfold g_Net_with_tie
  repeat' (first | done | dsimp only [List.cons_append, List.nil_append] | with_reducible refine Res.eq (e1) ?_ | fail)
  refine ⟨fun hf => absurd (by simpa using hf) hne, fun _ => ?_⟩
  repeat' (first | with_reducible refine exC (in_tiesU ea h.tasc) ?_ | done | fail)
  refine ⟨fun hf => absurd (of_decide_eq_true hf) ht, fun _ => ?_⟩
  repeat' (first | with_reducible refine exC (len_ts _) ?_ | done | fail)
  refine ⟨fun hf => absurd hf (by simp; omega), fun _ => ?_⟩
  repeat' (first | with_reducible refine exC ((rfl : itemsD (.tup (n.ts.map tx)) = some (n.ts.map tx))) ?_ | done | fail)
  refine ⟨smL (by simp; omega), ?_⟩
  repeat' (first | done | dsimp only [List.cons_append, List.nil_append] | with_reducible refine Res.eq (e3) ?_ | with_reducible refine Res.eq (e4) ?_ | fail)
  exact ⟨rfl, rfl⟩
theorem e_withTB {t : Str} {n : Net3} {x y : Str} (S : Sto) (h : okNet n) (hx : x ∈ n.ps) (hy : y ∈ n.ps) (hb : x = y ∨ ordP n.ps x y ∈ n.ts) : f_Net_with_tie [netD t n, .str x, .str y] S = .exc 6 (.tup [.str x, .str y]) S := by
  have hp2 := h.p2
  have e1 := e_pair_of S h.asc (by omega) hx hy
  refine Res.isExc (wbody rfl ?_)
  unfold g_Net_with_tie
  by_cases hne : x = y
  · subst hne
    repeat' (first | done | dsimp only [List.cons_append, List.nil_append] | with_reducible refine Res.eq (e1) ?_ | fail)
    exact ⟨rfl, rfl, rfl⟩
  · have hb := hb.resolve_left hne
    rw [inSeq_ord h.pd hx hy hne] at e1
    have ea : ∀ z ∈ ordP n.ps x y, asc z = true := fun z hz => h.asc z ((ord_sub h.pd hx hy hne).2.subset hz)
    repeat' (first | done | dsimp only [List.cons_append, List.nil_append] | with_reducible refine Res.eq (e1) ?_ | fail)
    refine ⟨fun hf => absurd (by simpa using hf) hne, fun _ => ?_⟩
    repeat' (first | with_reducible refine exC (in_tiesU ea h.tasc) ?_ | done | fail)
    refine ⟨fun _ => ?_, fun hf => absurd hb (of_decide_eq_false hf)⟩
    repeat' (first | done | fail)
    exact ⟨rfl, rfl, rfl⟩
theorem e_withTF {t : Str} {n : Net3} {x y : Str} (S : Sto) (h : okNet n) (hx : x ∈ n.ps) (hy : y ∈ n.ps) (hne : x ≠ y) (ht : ordP n.ps x y ∉ n.ts) (h14 : n.ts.length = 14) : f_Net_with_tie [netD t n, .str x, .str y] S = .exc 7 (.int 14) S := by
  have hp2 := h.p2
  have e1 := e_pair_of S h.asc (by omega) hx hy
  have ea : ∀ z ∈ ordP n.ps x y, asc z = true := fun z hz => h.asc z ((ord_sub h.pd hx hy hne).2.subset hz)
  rw [inSeq_ord h.pd hx hy hne] at e1
  refine Res.isExc (wbody rfl ?_)
  unfold g_Net_with_tie
  repeat' (first | done | dsimp only [List.cons_append, List.nil_append] | with_reducible refine Res.eq (e1) ?_ | fail)
  refine ⟨fun hf => absurd (by simpa using hf) hne, fun _ => ?_⟩
  repeat' (first | with_reducible refine exC (in_tiesU ea h.tasc) ?_ | done | fail)
  refine ⟨fun hf => absurd (of_decide_eq_true hf) ht, fun _ => ?_⟩
  repeat' (first | with_reducible refine exC (len_ts _) ?_ | done | fail)
  refine ⟨fun _ => ?_, fun hf => absurd hf (by simp; omega)⟩
  repeat' (first | done | fail)
  exact ⟨rfl, rfl, rfl⟩
theorem e_withTP {t : Str} {n : Net3} {v u : D} (S : Sto) (h : okNet n) (hv : VV v) (hp : isPl n.ps v = false) : f_Net_with_tie [netD t n, v, u] S = .exc 2 v S := by
  refine Res.isExc (wbody rfl ?_)
  unfold g_Net_with_tie
  repeat' (first | done | fail)
  exact Res.exq (e_pair_ofX _ h.asc hv hp) ⟨rfl, rfl, rfl⟩
theorem e_withTQ {t : Str} {n : Net3} {v : D} {x : Str} (S : Sto) (h : okNet n) (hx : x ∈ n.ps) (hv : VV v) (hp : isPl n.ps v = false) : f_Net_with_tie [netD t n, .str x, v] S = .exc 2 v S := by
  refine Res.isExc (wbody rfl ?_)
  unfold g_Net_with_tie
  repeat' (first | done | fail)
  exact Res.exq (e_pair_ofY _ h.asc hx hv hp) ⟨rfl, rfl, rfl⟩
theorem tie_ne {n : Net3} (h : okNet n) {x : Str} : [x] ∉ n.ts ∧ [x, x] ∉ n.ts := by
  constructor
  · intro hm
    have := (h.tl _ hm).1
    simp at this
  · intro hm
    have := (h.tl _ hm).2.nodup h.pd
    simp at this
theorem e_outTB {t : Str} {n : Net3} {x y : Str} (S : Sto) (h : okNet n) (hx : x ∈ n.ps) (hy : y ∈ n.ps) (hb : ordP n.ps x y ∉ n.ts) : f_Net_without_tie [netD t n, .str x, .str y] S = .exc 6 (.tup [.str x, .str y]) S := by
  have hp2 := h.p2
  have e1 := e_pair_of S h.asc (by omega) hx hy
  have hn : inSeq n.ps [x, y] ∉ n.ts := by
    by_cases hne : x = y
    · subst hne
      rw [inSeq_same h.pd hx]
      exact (tie_ne h).1
    · rw [inSeq_ord h.pd hx hy hne]
      exact hb
  refine Res.isExc (wbody rfl ?_)
  unfold g_Net_without_tie
  repeat' (first | with_reducible refine exC (nin_tiesU (pairA h) h.tasc) ?_ | done | dsimp only [List.cons_append, List.nil_append] | with_reducible refine Res.eq (e1) ?_ | fail)
  refine ⟨fun _ => ?_, fun hf => absurd hf (by simp [hn])⟩
  repeat' (first | done | fail)
  exact ⟨rfl, rfl, rfl⟩
theorem e_outTL {t : Str} {n : Net3} {x y : Str} (S : Sto) (h : okNet n) (hx : x ∈ n.ps) (hy : y ∈ n.ps) (hb : ordP n.ps x y ∈ n.ts) (h1 : n.ts.length = 1) : f_Net_without_tie [netD t n, .str x, .str y] S = .exc 8 (.tup [.str x, .str y]) S := by
  have hp2 := h.p2
  have hne : x ≠ y := fun e => by
    subst e
    unfold ordP at hb
    rw [if_neg (by omega)] at hb
    exact (tie_ne h).2 hb
  have e1 := e_pair_of S h.asc (by omega) hx hy
  have ea : ∀ z ∈ ordP n.ps x y, asc z = true := fun z hz => h.asc z ((ord_sub h.pd hx hy hne).2.subset hz)
  rw [inSeq_ord h.pd hx hy hne] at e1
  refine Res.isExc (wbody rfl ?_)
  unfold g_Net_without_tie
  repeat' (first | with_reducible refine exC (nin_tiesU ea h.tasc) ?_ | done | dsimp only [List.cons_append, List.nil_append] | with_reducible refine Res.eq (e1) ?_ | fail)
  refine ⟨fun hf => absurd hb (by simpa using hf), fun _ => ?_⟩
  repeat' (first | with_reducible refine exC (len_ts _) ?_ | done | fail)
  refine ⟨fun _ => ?_, fun hf => absurd hf (by simp; omega)⟩
  repeat' (first | done | fail)
  exact ⟨rfl, rfl, rfl⟩
theorem ne_tx2 {a b : List Str} (ha : ∀ x ∈ a, asc x = true) (hb : ∀ x ∈ b, asc x = true) (h0 : a ≠ []) (h1 : b ≠ []) : neX (tx a) (tx b) = some (.bl (!decide (a = b))) := by
  have ea := okI (ok_tx ha) (ok_tx hb) (fun x => nofun)
  have la : ¬ (a.length = 0 ∨ b.length = 0) := by
    intro h
    rcases h with h | h
    · exact h0 (List.length_eq_zero_iff.mp h)
    · exact h1 (List.length_eq_zero_iff.mp h)
  unfold neX lenEq
  simp only [List.length_map]
  rw [if_neg la]
  show neD (tx a) (tx b) = _
  rw [ea.2]
  simp only [eqb, eqbL_str]
theorem e_outT {t : Str} {n : Net3} {x y : Str} (S : Sto) (h : okNet n) (hx : x ∈ n.ps) (hy : y ∈ n.ps) (hb : ordP n.ps x y ∈ n.ts) (h1 : n.ts.length ≠ 1) : f_Net_without_tie [netD t n, .str x, .str y] S = .ok (netD (textOf (linesOf (outT n x y))) (outT n x y)) S := by
  have hp2 := h.p2
  have ht2 := h.t2
  have hne : x ≠ y := fun e => by
    subst e
    unfold ordP at hb
    rw [if_neg (by omega)] at hb
    exact (tie_ne h).2 hb
  have e1 := e_pair_of S h.asc (by omega) hx hy
  have ea : ∀ z ∈ ordP n.ps x y, asc z = true := fun z hz => h.asc z ((ord_sub h.pd hx hy hne).2.subset hz)
  rw [inSeq_ord h.pd hx hy hne] at e1
  have N := h.outT (x := x) (y := y) h1
  have e3 : f_text_of [tx n.ps, tx n.ws, .lst ((n.ts.filter (fun t => !decide (t = ordP n.ps x y))).map tx)] S = _ := e_text_ofU (n := outT n x y) (w := tx n.ws) (u := .lst ((n.ts.filter (fun t => !decide (t = ordP n.ps x y))).map tx)) S N (it_tx _) rfl
  have e4 := e_NetW S N
  refine Res.is (wbody rfl ?_)
  unfold g_Net_without_tie
  repeat' (first | with_reducible refine exC (nin_tiesU ea h.tasc) ?_ | done | dsimp only [List.cons_append, List.nil_append] | with_reducible refine Res.eq (e1) ?_ | fail)
  refine ⟨fun hf => absurd hb (by simpa using hf), fun _ => ?_⟩
  repeat' (first | with_reducible refine exC (len_ts _) ?_ | done | fail)
  refine ⟨fun hf => absurd hf (by simp; omega), fun _ => ?_⟩
  repeat' (first | done | fail)
  refine ⟨smL (by simp; omega), rfl, ?_⟩
  refine wcompM (inj := tx) (P := fun t => !decide (t = ordP n.ps x y)) (F := tx) n.ts (fun z hz => ⟨_, rfl, ?_⟩) ?_
  · have hz0 : z ≠ [] := fun e => by have := (h.tl z hz).1; rw [e] at this; cases this
    have ho0 : ordP n.ps x y ≠ [] := fun e => by have := (ord_sub h.pd hx hy hne).1; rw [e] at this; cases this
    repeat' (first | with_reducible refine exC (ne_tx2 (h.tasc z hz) ea hz0 ho0) ?_ | done | fail)
    exact ⟨rfl, fun _ => wvar rfl ⟨rfl, rfl⟩, fun _ => rfl⟩
  · dsimp only [List.set_cons_zero, List.set_cons_succ, setAll, padE, hide, hideE, backE, List.getD, List.getElem?_cons_zero, List.getElem?_cons_succ, Option.getD_some, List.map_cons, List.map_nil, List.length_cons, List.length_nil, List.replicate, List.cons_append, List.nil_append, List.append_nil, Nat.reduceAdd, Nat.reduceSub]
    repeat' (first | done | dsimp only [List.cons_append, List.nil_append] | with_reducible refine Res.eq (e3) ?_ | with_reducible refine Res.eq (e4) ?_ | fail)
    exact ⟨rfl, rfl⟩
theorem e_outTP {t : Str} {n : Net3} {v u : D} (S : Sto) (h : okNet n) (hv : VV v) (hp : isPl n.ps v = false) : f_Net_without_tie [netD t n, v, u] S = .exc 2 v S := by
  refine Res.isExc (wbody rfl ?_)
  unfold g_Net_without_tie
  repeat' (first | done | fail)
  exact Res.exq (e_pair_ofX _ h.asc hv hp) ⟨rfl, rfl, rfl⟩
theorem e_outTQ {t : Str} {n : Net3} {v : D} {x : Str} (S : Sto) (h : okNet n) (hx : x ∈ n.ps) (hv : VV v) (hp : isPl n.ps v = false) : f_Net_without_tie [netD t n, .str x, v] S = .exc 2 v S := by
  refine Res.isExc (wbody rfl ?_)
  unfold g_Net_without_tie
  repeat' (first | done | fail)
  exact Res.exq (e_pair_ofY _ h.asc hx hv hp) ⟨rfl, rfl, rfl⟩
end Z

set_option Elab.async false
set_option linter.all false
set_option maxRecDepth 100000
set_option maxHeartbeats 8000000
/-! Q08: the law's own looks -/
namespace Z
open PySem PySem.Spec PyProof.Rows L2 RZ TL
local macro_rules
  | `(tactic| done) => `(tactic| (first | ((with_reducible refine wseq ?_); try dsimp only [List.set_cons_zero, List.set_cons_succ, setAll, padE, hide, hideE, backE, List.getD, List.getElem?_cons_zero, List.getElem?_cons_succ, Option.getD_some, List.map_cons, List.map_nil, List.length_cons, List.length_nil, List.replicate, List.cons_append, List.nil_append, List.append_nil, Nat.reduceAdd, Nat.reduceSub]) | ((with_reducible refine wseqN ?_); try dsimp only [List.set_cons_zero, List.set_cons_succ, setAll, padE, hide, hideE, backE, List.getD, List.getElem?_cons_zero, List.getElem?_cons_succ, Option.getD_some, List.map_cons, List.map_nil, List.length_cons, List.length_nil, List.replicate, List.cons_append, List.nil_append, List.append_nil, Nat.reduceAdd, Nat.reduceSub]) | with_reducible refine wvar (by with_unfolding_all exact rfl) ?_ | with_reducible refine wnext ?_ | with_reducible refine wpass ?_ | with_reducible refine wret ?_ | with_reducible refine wif ?_ | with_reducible refine wexpr ?_ | with_reducible refine wset ?_ | with_reducible refine wsetB ?_ | with_reducible refine wpar ?_ | with_reducible refine wsnil ?_ | with_reducible refine wsval ?_ | with_reducible refine wsnew ?_ | with_reducible refine wsetItem ?_ | with_reducible refine wraise ?_ | with_reducible refine wfor ?_ | with_reducible refine wk ?_ | with_reducible refine wop ?_ | with_reducible refine wtand ?_ | with_reducible refine wtor ?_ | with_reducible refine wtnot ?_ | with_reducible refine wtoB ?_ | with_reducible refine wand ?_ | with_reducible refine wor ?_ | with_reducible refine wnot ?_ | with_reducible refine wite ?_ | with_reducible refine wchain ?_ | with_reducible refine wnil ?_ | with_reducible refine wcons ?_ | with_reducible refine wtup ?_ | with_reducible refine wlst ?_ | with_reducible refine wfrz ?_ | with_reducible refine wcel ?_ | with_reducible refine wcb ?_ | with_reducible refine wcall0 ?_ | with_reducible refine wcall ?_ | with_reducible refine widx ?_ | with_reducible refine wneg ?_ | with_reducible refine wisi ?_ | with_reducible refine wisc ?_ | with_reducible refine wval ?_ | with_reducible refine wmk ?_ | with_reducible refine wrev ?_ | with_reducible refine wup ?_ | with_reducible refine wenum ?_ | with_reducible refine wonone ?_ | with_reducible refine wosome ?_ | with_reducible refine wslice ?_ | with_reducible refine wlistF ?_ | with_reducible refine wlistRg ?_ | with_reducible refine wrange ?_ | with_reducible refine wseqI ?_ | with_reducible refine wzip ?_ | with_reducible refine wdct ?_ | with_reducible refine wdctB ?_ | with_reducible refine wdct0 ?_ | with_reducible refine wsetD ?_ | with_reducible refine wsnewD ?_ | with_reducible refine wcallF ?_ | with_reducible refine wputK ?_ | with_reducible refine windex ?_ | with_reducible refine wstarI ?_ | with_reducible refine wheard ?_ | with_reducible refine wyes ?_ | with_reducible refine wcomp ?_ | with_reducible refine wsplit ?_ | with_reducible refine wjoin ?_ | with_reducible refine wlenSet ?_ | with_reducible refine wfldO ?_ | with_reducible refine wprop ?_ | with_reducible refine wmeth ?_ | with_reducible refine winB ?_ | with_reducible refine wninB ?_ | with_reducible refine wlenO ?_ | with_reducible refine winO ?_ | with_reducible refine weqO ?_ | with_reducible refine wiso ?_ | with_reducible refine wstar ?_ | with_reducible refine wfld1 ?_ | with_reducible refine wasg ?_ | with_reducible refine wlenB (by with_unfolding_all exact rfl) ?_ | with_reducible refine wlenV (by with_unfolding_all exact rfl) ?_ | with_reducible refine wvarB (by with_unfolding_all exact rfl) ?_ | with_reducible refine wvarX (by with_unfolding_all exact rfl) ?_ | with_reducible refine wvarXB (by with_unfolding_all exact rfl) (by with_unfolding_all exact rfl) ?_ | with_reducible refine wupd (by with_unfolding_all exact rfl) ?_ | with_reducible refine wbld (by with_unfolding_all exact rfl) ?_ | with_reducible refine wblk (by with_unfolding_all exact rfl) ?_ | with_reducible refine wmade (by with_unfolding_all exact rfl) ?_ | with_reducible refine exB ?_ | with_reducible refine exI ?_ | with_reducible refine exS ?_ | with_reducible refine exO ?_ | with_reducible refine exG (by with_unfolding_all exact rfl) ?_ | ((with_reducible apply exM); exact rfl) | (with_reducible refine ⟨fun _ => ?_, b_tf⟩) | (with_reducible refine ⟨b_ft, fun _ => ?_⟩) | (with_reducible refine ⟨b_nt, fun _ => ?_⟩) | (with_reducible refine ⟨fun _ => ?_, b_nf⟩) | ((with_reducible apply exC); (simp only [List.map_cons, addD, subD, cmpI, isND, isNotND, lenD, absD, intD, tupleD, maxD, minD, listS, revD, enumS, seqD, zipS, zipD, ixS, idxD, at0, at1, at2, eqI, neI, eqBl, neBl, beq_self_eq_true, Bool.not_true, Bool.not_false, eqS, neS, eqL0, neL0, eqT0, neT0, List.isEmpty_cons, List.isEmpty_nil, iscD, valD, istOf, List.getD_cons_zero, List.getD_cons_succ, List.length_cons, List.length_nil, appendK, sliceD, Option.map_some, Option.bind_some, isi_int_non, isi_int_bl, isi_int_int, isi_int_str, isi_int_tup, isi_int_lst, isi_int_dct, isi_bool_non, isi_bool_bl, isi_bool_int, isi_bool_str, isi_bool_tup, isi_bool_lst, isi_bool_dct, isi_tuple_non, isi_tuple_bl, isi_tuple_int, isi_tuple_str, isi_tuple_tup, isi_tuple_lst, isi_tuple_dct, isi_str_non, isi_str_bl, isi_str_int, isi_str_str, isi_str_tup, isi_str_lst, isi_str_dct, isi_list_non, isi_list_bl, isi_list_int, isi_list_str, isi_list_tup, isi_list_lst, isi_list_dct, isi_dict_non, isi_dict_bl, isi_dict_int, isi_dict_str, isi_dict_tup, isi_dict_lst, isi_dict_dct]; exact rfl)) | (refine ⟨(by rfl : small _ = true), ?_⟩) | (refine ⟨(by rfl : rhsO _ _ = true), ?_⟩) | (refine ⟨(by rfl : List.length _ = List.length _), ?_⟩)))

theorem idx_find : ∀ {l : List Str} {x : Str}, x ∈ l → ((l.map D.str).findIdx? fun y => eqb y (.str x)) = some (l.idxOf x)
  | [], x, h => nomatch h
  | a :: l, x, h => by
    rw [List.map_cons, List.findIdx?_cons]
    by_cases e : a = x
    · subst e
      simp [eqb]
    · have h : x ∈ l := by rcases List.mem_cons.mp h with h | h; exact absurd h.symm e; exact h
      have e2 : eqb (.str a) (.str x) = false := by simp [eqb, e]
      rw [e2, idx_find h, idx_ne e]
      rfl
theorem index_lx {l : List Str} {x : Str} (hl : ∀ y ∈ l, asc y = true) (hx : x ∈ l) : indexL (l.map .str) (.str x) = some (.int (l.idxOf x : Nat)) := by
  unfold indexL
  rw [if_pos (by rw [ok_str (hl x hx), ok_lx hl]; rfl), idx_find hx]
  rfl
theorem e__law_pair_of {n : Net3} {x y : Str} (S : Sto) (h : okNet n) (hx : x ∈ n.ps) (hy : y ∈ n.ps) : f__law_pair_of [loreD n, .str x, .str y] S = .ok (tx (ordP n.ps x y)) S := by
  refine Res.is (wbody rfl ?_)
  unfold g__law_pair_of
  repeat' (first | done | fail)
  refine ⟨rfl, ?_⟩
  refine wcompM2 (inj := D.str) (P := fun _ => true) (F := fun z => .int (n.ps.idxOf z : Nat)) [x, y] rfl ?_ ?_
  · intro z hz
    refine ⟨_, rfl, wyes ⟨rfl, fun _ => ?_, fun h => nomatch h⟩⟩
    have hz : z ∈ n.ps := by
      simp only [List.mem_cons, List.not_mem_nil, or_false] at hz
      rcases hz with rfl | rfl
      · exact hx
      · exact hy
    repeat' (first | (with_reducible refine exLs ?_) | with_reducible refine exC (dixP n) ?_ | with_reducible refine exC (index_lx h.asc hz) ?_ | done | fail)
    exact ⟨rfl, rfl⟩
  · rw [filter_yes]
    dsimp only [List.map_cons, List.map_nil]
    unfold ordP
    by_cases hlt : n.ps.idxOf x < n.ps.idxOf y
    · rw [if_pos hlt]
      repeat' (first | done | fail)
      refine ⟨fun _ => ?_, fun hf => absurd hf (by simp; omega)⟩
      repeat' (first | done | fail)
      exact ⟨rfl, rfl⟩
    · rw [if_neg hlt]
      repeat' (first | done | fail)
      refine ⟨fun hf => absurd hf (by simp; omega), fun _ => ?_⟩
      repeat' (first | done | fail)
      exact ⟨rfl, rfl⟩
theorem len_tl2 (l : List (List Str)) : lenD [.lst (l.map tx)] = some (.int l.length) := by
  show some (D.int (l.map tx).length) = _
  rw [List.length_map]
theorem repr_14 : ∃ r, reprX [.int 14] = some (.str r) := gd_repr (b := 20) (by decide) (by decide +kernel) (by decide) (by decide)
theorem repr_two {x y : Str} (hx : asc x = true ∧ x.length ≤ 100) (hy : asc y = true ∧ y.length ≤ 100) : ∃ r, reprX [.tup [.str x, .str y]] = some (.str r) := by
  refine gd_repr (b := 20) (by decide) ?_ ?_ (by simp [dp, dps])
  · simp only [gd, gds, Bool.and_eq_true]
    exact ⟨gd_str hx.1 hx.2, gd_str hy.1 hy.2, trivial⟩
  · simp only [wt, wts]
    omega
theorem add_ts {l : List (List Str)} {t : List Str} (h : l.length ≤ 1000) : addD (.lst (l.map tx)) (.lst [tx t]) = some (.lst ((l ++ [t]).map tx)) := by
  show (if small ((l.map tx).length + 1) = true then some (D.lst (l.map tx ++ [tx t])) else none) = _
  rw [if_pos (smL (by simp; omega)), List.map_append]
  rfl
theorem ordA {n : Net3} {x y : Str} (h : okNet n) (hx : x ∈ n.ps) (hy : y ∈ n.ps) : ∀ z ∈ ordP n.ps x y, asc z = true := fun z hz => by
  rcases ord_mem hz with rfl | rfl
  · exact h.asc _ hx
  · exact h.asc _ hy
theorem e_in_right {n : Net3} {v u : D} (S : Sto) (h : okNet n) (hv : Vd v) (hu : Vd u) : f__law_is_in_right [loreD n, netD (textOf (linesOf n)) n, v, u] S = .ok (.bl true) S := by
  have ep := e_is_place S h hv.v
  have eq := e_is_place S h hu.v
  obtain ⟨rv, hrv⟩ := hv.r
  obtain ⟨ru, hru⟩ := hu.r
  cases hp : isPl n.ps v with
  | false =>
    rw [hp] at ep
    refine Res.is (wbody rfl ?_)
    unfold g__law_is_in_right
    repeat' (first | done | fail)
    refine Res.exq (e_withTP _ h hv.v hp) ?_
    repeat' (first | done | fail)
    refine wforC ⟨_, rfl, ?_⟩
    repeat' (first | done | dsimp only [List.cons_append, List.nil_append] | with_reducible refine Res.eq (ep) ?_ | with_reducible refine Res.eq (e_ref_place _ hrv) ?_ | fail)
    exact ⟨rfl, rfl⟩
  | true =>
    rw [hp] at ep
    obtain ⟨x, rfl, hx⟩ := isPl_str hp
    cases hq : isPl n.ps u with
    | false =>
      rw [hq] at eq
      refine Res.is (wbody rfl ?_)
      unfold g__law_is_in_right
      repeat' (first | done | fail)
      refine Res.exq (e_withTQ _ h hx hu.v hq) ?_
      repeat' (first | done | fail)
      refine wforC ⟨_, rfl, ?_⟩
      repeat' (first | done | dsimp only [List.cons_append, List.nil_append] | with_reducible refine Res.eq (ep) ?_ | fail)
      refine wforC ⟨_, rfl, ?_⟩
      repeat' (first | done | dsimp only [List.cons_append, List.nil_append] | with_reducible refine Res.eq (eq) ?_ | with_reducible refine Res.eq (e_ref_place _ hru) ?_ | fail)
      exact ⟨rfl, rfl⟩
    | true =>
      rw [hq] at eq
      obtain ⟨y, rfl, hy⟩ := isPl_str hq
      obtain ⟨r2, hr2⟩ := repr_two ⟨h.asc x hx, h.l8 x hx⟩ ⟨h.asc y hy, h.l8 y hy⟩
      have epr := e__law_pair_of S h hx hy
      have ht2 := h.t2
      by_cases hb : x = y ∨ ordP n.ps x y ∈ n.ts
      · refine Res.is (wbody rfl ?_)
        unfold g__law_is_in_right
        repeat' (first | done | fail)
        refine Res.exq (e_withTB _ h hx hy hb) ?_
        repeat' (first | done | fail)
        refine wforC ⟨_, rfl, ?_⟩
        repeat' (first | done | dsimp only [List.cons_append, List.nil_append] | with_reducible refine Res.eq (ep) ?_ | fail)
        refine wforC ⟨_, rfl, ?_⟩
        repeat' (first | done | dsimp only [List.cons_append, List.nil_append] | with_reducible refine Res.eq (eq) ?_ | fail)
        refine wforN ?_
        repeat' (first | done | dsimp only [List.cons_append, List.nil_append] | with_reducible refine Res.eq (epr) ?_ | fail)
        by_cases hne : x = y
        · refine ⟨fun _ => ?_, fun hf => absurd hf (by simp [hne])⟩
          repeat' (first | done | dsimp only [List.cons_append, List.nil_append] | with_reducible refine Res.eq (e_ref_tie _ hr2) ?_ | fail)
          exact ⟨rfl, rfl⟩
        · refine ⟨fun hf => absurd hf (by simp [hne]), fun _ => ?_⟩
          repeat' (first | with_reducible refine exC (dixT n) ?_ | with_reducible refine exC (in_ties (ordA h hx hy) h.tasc) ?_ | done | fail)
          refine ⟨fun _ => ?_, fun hf => absurd (hb.resolve_left hne) (of_decide_eq_false hf)⟩
          repeat' (first | done | dsimp only [List.cons_append, List.nil_append] | with_reducible refine Res.eq (e_ref_tie _ hr2) ?_ | fail)
          exact ⟨rfl, rfl⟩
      · have hne : x ≠ y := fun e => hb (.inl e)
        have ht : ordP n.ps x y ∉ n.ts := fun e => hb (.inr e)
        by_cases h14 : n.ts.length = 14
        · obtain ⟨r14, hr14⟩ := repr_14
          refine Res.is (wbody rfl ?_)
          unfold g__law_is_in_right
          repeat' (first | done | fail)
          refine Res.exq (e_withTF _ h hx hy hne ht h14) ?_
          repeat' (first | done | fail)
          refine wforC ⟨_, rfl, ?_⟩
          repeat' (first | done | dsimp only [List.cons_append, List.nil_append] | with_reducible refine Res.eq (ep) ?_ | fail)
          refine wforC ⟨_, rfl, ?_⟩
          repeat' (first | done | dsimp only [List.cons_append, List.nil_append] | with_reducible refine Res.eq (eq) ?_ | fail)
          refine wforN ?_
          repeat' (first | done | dsimp only [List.cons_append, List.nil_append] | with_reducible refine Res.eq (epr) ?_ | fail)
          refine ⟨fun hf => absurd (by simpa using hf) hne, fun _ => ?_⟩
          repeat' (first | with_reducible refine exC (dixT n) ?_ | with_reducible refine exC (in_ties (ordA h hx hy) h.tasc) ?_ | done | fail)
          refine ⟨fun hf => absurd (of_decide_eq_true hf) ht, fun _ => ?_⟩
          repeat' (first | with_reducible refine exC (dixT n) ?_ | with_reducible refine exC (len_tl2 _) ?_ | done | fail)
          refine ⟨fun _ => ?_, fun hf => absurd hf (by simp [h14])⟩
          repeat' (first | done | dsimp only [List.cons_append, List.nil_append] | with_reducible refine Res.eq (e_ref_full _ hr14) ?_ | fail)
          exact ⟨rfl, rfl⟩
        · have N := h.withT hx hy hne ht h14
          have ew := e__law_withT (ws := n.ws) (ts := n.ts ++ [ordP n.ps x y]) S h h.wasc
          rw [inSeq_sub h.pd h.w2] at ew
          have ew : f__law_with [loreD n, lx n.ws, .lst ((n.ts ++ [ordP n.ps x y]).map tx)] S = .ok (loreD (withT n x y)) S := ew
          have ea := e_as_told S N
          refine Res.is (wbody rfl ?_)
          unfold g__law_is_in_right
          repeat' (first | done | dsimp only [List.cons_append, List.nil_append] | with_reducible refine Res.eq (e_withT _ h hx hy hne ht h14) ?_ | fail)
          refine wforC ⟨_, rfl, ?_⟩
          repeat' (first | done | dsimp only [List.cons_append, List.nil_append] | with_reducible refine Res.eq (ep) ?_ | fail)
          refine wforC ⟨_, rfl, ?_⟩
          repeat' (first | done | dsimp only [List.cons_append, List.nil_append] | with_reducible refine Res.eq (eq) ?_ | fail)
          refine wforN ?_
          repeat' (first | done | dsimp only [List.cons_append, List.nil_append] | with_reducible refine Res.eq (epr) ?_ | fail)
          refine ⟨fun hf => absurd (by simpa using hf) hne, fun _ => ?_⟩
          repeat' (first | with_reducible refine exC (dixT n) ?_ | with_reducible refine exC (in_ties (ordA h hx hy) h.tasc) ?_ | done | fail)
          refine ⟨fun hf => absurd (of_decide_eq_true hf) ht, fun _ => ?_⟩
          repeat' (first | with_reducible refine exC (dixT n) ?_ | with_reducible refine exC (len_tl2 _) ?_ | done | fail)
          refine ⟨fun hf => absurd hf (by simp; omega), fun _ => ?_⟩
          repeat' (first | with_reducible refine exC (dixW n) ?_ | with_reducible refine exC (dixT n) ?_ | with_reducible refine exC (add_ts (by omega)) ?_ | done | dsimp only [List.cons_append, List.nil_append] | with_reducible refine Res.eq (ew) ?_ | with_reducible refine Res.eq (ea) ?_ | fail)
          exact ⟨rfl, rfl⟩
theorem e_out_right {n : Net3} {v u : D} (S : Sto) (h : okNet n) (hv : Vd v) (hu : Vd u) : f__law_is_out_right [loreD n, netD (textOf (linesOf n)) n, v, u] S = .ok (.bl true) S := by
  have ep := e_is_place S h hv.v
  have eq := e_is_place S h hu.v
  obtain ⟨rv, hrv⟩ := hv.r
  obtain ⟨ru, hru⟩ := hu.r
  cases hp : isPl n.ps v with
  | false =>
    rw [hp] at ep
    refine Res.is (wbody rfl ?_)
    unfold g__law_is_out_right
    repeat' (first | done | fail)
    refine Res.exq (e_outTP _ h hv.v hp) ?_
    repeat' (first | done | fail)
    refine wforC ⟨_, rfl, ?_⟩
    repeat' (first | done | dsimp only [List.cons_append, List.nil_append] | with_reducible refine Res.eq (ep) ?_ | with_reducible refine Res.eq (e_ref_place _ hrv) ?_ | fail)
    exact ⟨rfl, rfl⟩
  | true =>
    rw [hp] at ep
    obtain ⟨x, rfl, hx⟩ := isPl_str hp
    cases hq : isPl n.ps u with
    | false =>
      rw [hq] at eq
      refine Res.is (wbody rfl ?_)
      unfold g__law_is_out_right
      repeat' (first | done | fail)
      refine Res.exq (e_outTQ _ h hx hu.v hq) ?_
      repeat' (first | done | fail)
      refine wforC ⟨_, rfl, ?_⟩
      repeat' (first | done | dsimp only [List.cons_append, List.nil_append] | with_reducible refine Res.eq (ep) ?_ | fail)
      refine wforC ⟨_, rfl, ?_⟩
      repeat' (first | done | dsimp only [List.cons_append, List.nil_append] | with_reducible refine Res.eq (eq) ?_ | with_reducible refine Res.eq (e_ref_place _ hru) ?_ | fail)
      exact ⟨rfl, rfl⟩
    | true =>
      rw [hq] at eq
      obtain ⟨y, rfl, hy⟩ := isPl_str hq
      obtain ⟨r2, hr2⟩ := repr_two ⟨h.asc x hx, h.l8 x hx⟩ ⟨h.asc y hy, h.l8 y hy⟩
      have epr := e__law_pair_of S h hx hy
      have ht2 := h.t2
      by_cases hb : ordP n.ps x y ∈ n.ts
      · by_cases h1 : n.ts.length = 1
        · refine Res.is (wbody rfl ?_)
          unfold g__law_is_out_right
          repeat' (first | done | fail)
          refine Res.exq (e_outTL _ h hx hy hb h1) ?_
          repeat' (first | done | fail)
          refine wforC ⟨_, rfl, ?_⟩
          repeat' (first | done | dsimp only [List.cons_append, List.nil_append] | with_reducible refine Res.eq (ep) ?_ | fail)
          refine wforC ⟨_, rfl, ?_⟩
          repeat' (first | done | dsimp only [List.cons_append, List.nil_append] | with_reducible refine Res.eq (eq) ?_ | fail)
          refine wforN ?_
          repeat' (first | with_reducible refine exC (dixT n) ?_ | with_reducible refine exC (nin_ties (ordA h hx hy) h.tasc) ?_ | done | dsimp only [List.cons_append, List.nil_append] | with_reducible refine Res.eq (epr) ?_ | fail)
          refine ⟨fun hf => absurd hf (by simp [hb]), fun _ => ?_⟩
          repeat' (first | with_reducible refine exC (dixT n) ?_ | with_reducible refine exC (len_tl2 _) ?_ | done | fail)
          refine ⟨fun _ => ?_, fun hf => absurd hf (by simp [h1])⟩
          repeat' (first | done | dsimp only [List.cons_append, List.nil_append] | with_reducible refine Res.eq (e_ref_last _ hr2) ?_ | fail)
          exact ⟨rfl, rfl⟩
        · have N := h.outT (x := x) (y := y) h1
          have ew := e__law_withT (ws := n.ws) (ts := n.ts.filter (fun t => !decide (t = ordP n.ps x y))) S h h.wasc
          rw [inSeq_sub h.pd h.w2] at ew
          have ew : f__law_with [loreD n, lx n.ws, .lst ((n.ts.filter (fun t => !decide (t = ordP n.ps x y))).map tx)] S = .ok (loreD (outT n x y)) S := ew
          have ea := e_as_told S N
          refine Res.is (wbody rfl ?_)
          unfold g__law_is_out_right
          repeat' (first | done | dsimp only [List.cons_append, List.nil_append] | with_reducible refine Res.eq (e_outT _ h hx hy hb h1) ?_ | fail)
          refine wforC ⟨_, rfl, ?_⟩
          repeat' (first | done | dsimp only [List.cons_append, List.nil_append] | with_reducible refine Res.eq (ep) ?_ | fail)
          refine wforC ⟨_, rfl, ?_⟩
          repeat' (first | done | dsimp only [List.cons_append, List.nil_append] | with_reducible refine Res.eq (eq) ?_ | fail)
          refine wforN ?_
          repeat' (first | with_reducible refine exC (dixT n) ?_ | with_reducible refine exC (nin_ties (ordA h hx hy) h.tasc) ?_ | done | dsimp only [List.cons_append, List.nil_append] | with_reducible refine Res.eq (epr) ?_ | fail)
          refine ⟨fun hf => absurd hf (by simp [hb]), fun _ => ?_⟩
          repeat' (first | with_reducible refine exC (dixT n) ?_ | with_reducible refine exC (len_tl2 _) ?_ | done | fail)
          refine ⟨fun hf => absurd hf (by simp; omega), fun _ => ?_⟩
          repeat' (first | with_reducible refine exC (dixT n) ?_ | done | fail)
          refine ⟨smL (by simp; omega), rfl, ?_⟩
          refine wcompM (inj := tx) (P := fun t => !decide (t = ordP n.ps x y)) (F := tx) n.ts (fun z hz => ⟨_, rfl, ?_⟩) ?_
          · have hz0 : z ≠ [] := fun e => by have := (h.tl z hz).1; rw [e] at this; cases this
            have ho0 : ordP n.ps x y ≠ [] := by unfold ordP; split <;> simp
            repeat' (first | with_reducible refine exC (ne_tx2 (h.tasc z hz) (ordA h hx hy) hz0 ho0) ?_ | done | fail)
            exact ⟨rfl, fun _ => wvar rfl ⟨rfl, rfl⟩, fun _ => rfl⟩
          · repeat' (first | with_reducible refine exC (dixW n) ?_ | done | dsimp only [List.cons_append, List.nil_append] | with_reducible refine Res.eq (ew) ?_ | with_reducible refine Res.eq (ea) ?_ | fail)
            exact ⟨rfl, rfl⟩
      · refine Res.is (wbody rfl ?_)
        unfold g__law_is_out_right
        repeat' (first | done | fail)
        refine Res.exq (e_outTB _ h hx hy hb) ?_
        repeat' (first | done | fail)
        refine wforC ⟨_, rfl, ?_⟩
        repeat' (first | done | dsimp only [List.cons_append, List.nil_append] | with_reducible refine Res.eq (ep) ?_ | fail)
        refine wforC ⟨_, rfl, ?_⟩
        repeat' (first | done | dsimp only [List.cons_append, List.nil_append] | with_reducible refine Res.eq (eq) ?_ | fail)
        refine wforN ?_
        repeat' (first | with_reducible refine exC (dixT n) ?_ | with_reducible refine exC (nin_ties (ordA h hx hy) h.tasc) ?_ | done | dsimp only [List.cons_append, List.nil_append] | with_reducible refine Res.eq (epr) ?_ | fail)
        refine ⟨fun _ => ?_, fun hf => absurd hf (by simp [hb])⟩
        repeat' (first | done | dsimp only [List.cons_append, List.nil_append] | with_reducible refine Res.eq (e_ref_tie _ hr2) ?_ | fail)
        exact ⟨rfl, rfl⟩
end Z

set_option Elab.async false
set_option linter.all false
set_option maxRecDepth 100000
set_option maxHeartbeats 8000000
/-! R08: the law -/
namespace Z
open PySem PySem.Spec PyProof.Rows L2 RZ TL
local macro_rules
  | `(tactic| done) => `(tactic| (first | ((with_reducible refine wseq ?_); try dsimp only [List.set_cons_zero, List.set_cons_succ, setAll, padE, hide, hideE, backE, List.getD, List.getElem?_cons_zero, List.getElem?_cons_succ, Option.getD_some, List.map_cons, List.map_nil, List.length_cons, List.length_nil, List.replicate, List.cons_append, List.nil_append, List.append_nil, Nat.reduceAdd, Nat.reduceSub]) | ((with_reducible refine wseqN ?_); try dsimp only [List.set_cons_zero, List.set_cons_succ, setAll, padE, hide, hideE, backE, List.getD, List.getElem?_cons_zero, List.getElem?_cons_succ, Option.getD_some, List.map_cons, List.map_nil, List.length_cons, List.length_nil, List.replicate, List.cons_append, List.nil_append, List.append_nil, Nat.reduceAdd, Nat.reduceSub]) | with_reducible refine wvar (by with_unfolding_all exact rfl) ?_ | with_reducible refine wnext ?_ | with_reducible refine wpass ?_ | with_reducible refine wret ?_ | with_reducible refine wif ?_ | with_reducible refine wexpr ?_ | with_reducible refine wset ?_ | with_reducible refine wsetB ?_ | with_reducible refine wpar ?_ | with_reducible refine wsnil ?_ | with_reducible refine wsval ?_ | with_reducible refine wsnew ?_ | with_reducible refine wsetItem ?_ | with_reducible refine wraise ?_ | with_reducible refine wfor ?_ | with_reducible refine wk ?_ | with_reducible refine wop ?_ | with_reducible refine wtand ?_ | with_reducible refine wtor ?_ | with_reducible refine wtnot ?_ | with_reducible refine wtoB ?_ | with_reducible refine wand ?_ | with_reducible refine wor ?_ | with_reducible refine wnot ?_ | with_reducible refine wite ?_ | with_reducible refine wchain ?_ | with_reducible refine wnil ?_ | with_reducible refine wcons ?_ | with_reducible refine wtup ?_ | with_reducible refine wlst ?_ | with_reducible refine wfrz ?_ | with_reducible refine wcel ?_ | with_reducible refine wcb ?_ | with_reducible refine wcall0 ?_ | with_reducible refine wcall ?_ | with_reducible refine widx ?_ | with_reducible refine wneg ?_ | with_reducible refine wisi ?_ | with_reducible refine wisc ?_ | with_reducible refine wval ?_ | with_reducible refine wmk ?_ | with_reducible refine wrev ?_ | with_reducible refine wup ?_ | with_reducible refine wenum ?_ | with_reducible refine wonone ?_ | with_reducible refine wosome ?_ | with_reducible refine wslice ?_ | with_reducible refine wlistF ?_ | with_reducible refine wlistRg ?_ | with_reducible refine wrange ?_ | with_reducible refine wseqI ?_ | with_reducible refine wzip ?_ | with_reducible refine wdct ?_ | with_reducible refine wdctB ?_ | with_reducible refine wdct0 ?_ | with_reducible refine wsetD ?_ | with_reducible refine wsnewD ?_ | with_reducible refine wcallF ?_ | with_reducible refine wputK ?_ | with_reducible refine windex ?_ | with_reducible refine wstarI ?_ | with_reducible refine wheard ?_ | with_reducible refine wyes ?_ | with_reducible refine wcomp ?_ | with_reducible refine wsplit ?_ | with_reducible refine wjoin ?_ | with_reducible refine wlenSet ?_ | with_reducible refine wfldO ?_ | with_reducible refine wprop ?_ | with_reducible refine wmeth ?_ | with_reducible refine winB ?_ | with_reducible refine wninB ?_ | with_reducible refine wlenO ?_ | with_reducible refine winO ?_ | with_reducible refine weqO ?_ | with_reducible refine wiso ?_ | with_reducible refine wstar ?_ | with_reducible refine wfld1 ?_ | with_reducible refine wasg ?_ | with_reducible refine wlenB (by with_unfolding_all exact rfl) ?_ | with_reducible refine wlenV (by with_unfolding_all exact rfl) ?_ | with_reducible refine wvarB (by with_unfolding_all exact rfl) ?_ | with_reducible refine wvarX (by with_unfolding_all exact rfl) ?_ | with_reducible refine wvarXB (by with_unfolding_all exact rfl) (by with_unfolding_all exact rfl) ?_ | with_reducible refine wupd (by with_unfolding_all exact rfl) ?_ | with_reducible refine wbld (by with_unfolding_all exact rfl) ?_ | with_reducible refine wblk (by with_unfolding_all exact rfl) ?_ | with_reducible refine wmade (by with_unfolding_all exact rfl) ?_ | with_reducible refine exB ?_ | with_reducible refine exI ?_ | with_reducible refine exS ?_ | with_reducible refine exO ?_ | with_reducible refine exG (by with_unfolding_all exact rfl) ?_ | ((with_reducible apply exM); exact rfl) | (with_reducible refine ⟨fun _ => ?_, b_tf⟩) | (with_reducible refine ⟨b_ft, fun _ => ?_⟩) | (with_reducible refine ⟨b_nt, fun _ => ?_⟩) | (with_reducible refine ⟨fun _ => ?_, b_nf⟩) | ((with_reducible apply exC); (simp only [List.map_cons, addD, subD, cmpI, isND, isNotND, lenD, absD, intD, tupleD, maxD, minD, listS, revD, enumS, seqD, zipS, zipD, ixS, idxD, at0, at1, at2, eqI, neI, eqBl, neBl, beq_self_eq_true, Bool.not_true, Bool.not_false, eqS, neS, eqL0, neL0, eqT0, neT0, List.isEmpty_cons, List.isEmpty_nil, iscD, valD, istOf, List.getD_cons_zero, List.getD_cons_succ, List.length_cons, List.length_nil, appendK, sliceD, Option.map_some, Option.bind_some, isi_int_non, isi_int_bl, isi_int_int, isi_int_str, isi_int_tup, isi_int_lst, isi_int_dct, isi_bool_non, isi_bool_bl, isi_bool_int, isi_bool_str, isi_bool_tup, isi_bool_lst, isi_bool_dct, isi_tuple_non, isi_tuple_bl, isi_tuple_int, isi_tuple_str, isi_tuple_tup, isi_tuple_lst, isi_tuple_dct, isi_str_non, isi_str_bl, isi_str_int, isi_str_str, isi_str_tup, isi_str_lst, isi_str_dct, isi_list_non, isi_list_bl, isi_list_int, isi_list_str, isi_list_tup, isi_list_lst, isi_list_dct, isi_dict_non, isi_dict_bl, isi_dict_int, isi_dict_str, isi_dict_tup, isi_dict_lst, isi_dict_dct]; exact rfl)) | (refine ⟨(by rfl : small _ = true), ?_⟩) | (refine ⟨(by rfl : rhsO _ _ = true), ?_⟩) | (refine ⟨(by rfl : List.length _ = List.length _), ?_⟩)))

abbrev loreK : List Key := [.inr "places", .inr "watchers", .inr "ties"]
abbrev loreX (n : Net3) : List D := [lx n.ps, lx n.ws, .lst (n.ts.map tx)]
theorem dOf_lore (n : Net3) : dOf (loreD n) = some (loreK, loreX n) := rfl
theorem lookP (n : Net3) : lookV (.inr "places") loreK (loreX n) = some (lx n.ps) := rfl
theorem lookT (n : Net3) : lookV (.inr "ties") loreK (loreX n) = some (.lst (n.ts.map tx)) := by
  have h : ¬ (Sum.inr ("places" : Str) : Key) = Sum.inr ("ties" : Str) := by decide +kernel
  have h2 : ¬ (Sum.inr ("watchers" : Str) : Key) = Sum.inr ("ties" : Str) := by decide +kernel
  simp only [lookV, if_neg h, if_neg h2, if_true]
theorem setT (n : Net3) (ts : List (List Str)) : setV (.inr "ties") (.lst (ts.map tx)) loreK (loreX n) = loreX ⟨n.ps, n.ws, ts⟩ := by
  have h : ¬ (Sum.inr ("places" : Str) : Key) = Sum.inr ("ties" : Str) := by decide +kernel
  have h2 : ¬ (Sum.inr ("watchers" : Str) : Key) = Sum.inr ("ties" : Str) := by decide +kernel
  simp only [setV, if_neg h, if_neg h2, if_true]
theorem toD_lore (n : Net3) : (BK.k loreK).toD (loreX n) = some (loreD n) := rfl
theorem anyT : (loreK.any fun a => decide (a = (Sum.inr "ties" : Key))) = true := by decide +kernel
theorem okTs {n : Net3} (h : okNet n) {ts : List (List Str)} (h0 : ts ≠ []) (h14 : ts.length ≤ 14) (hd : ts.Nodup) (hp : ∀ t ∈ ts, t ∈ pairsL n.ps) : okNet ⟨n.ps, n.ws, ts⟩ := ⟨h.p1, h.p2, h.pn, h.pd, h.w1, h.w2, h0, h14, fun t ht => pairs_sub (hp t ht), hd⟩
theorem slT {ts : List (List Str)} : sliceD (.lst (ts.map tx)) none (some 1) = some (.lst ((ts.take 1).map tx)) := by
  rw [slD (by decide), ← List.map_take]
  rfl
theorem r__law_right {S : Sto} {p k : Nat} (h : PotAt S p k) (hk : k < 50000) : Res (f__law_right [.cel p] S) (fun d S' => d = .bl true ∧ PotAt S' p (k + 80)) nE := by
  refine wbody rfl ?_
  unfold g__law_right
  repeat' (first | done | fail)
  refine (r_lore (few := 3) (most := 8) (ties := 9) h (by omega) (by decide) (by decide) (by decide) (by decide)).use ?_
  rintro _ S1 ⟨n, Ln, rfl, h1⟩
  have N := Ln.ok
  have hp2 := N.p2
  refine ⟨_, dOf_lore n, ?_⟩
  repeat' (first | done | fail)
  refine (r_take h1 (by omega) (by decide) (by decide)).use ?_
  rintro _ S2 ⟨r, rfl, r0, r1, h2⟩
  repeat' (first | (with_reducible refine wdixKB (by with_unfolding_all exact rfl) (lookP n) ?_) | done | dsimp only [List.cons_append, List.nil_append] | with_reducible refine Res.eq (e__law_pairs _ (by omega)) ?_ | fail)
  refine wjoin2 (I := fun m => ∃ ts : List (List Str), m = ⟨[.val (.cel p), .val (.lst ((pairsL n.ps).map tx)), .un, .box (.k loreK) (loreX ⟨n.ps, n.ws, ts⟩), .val (.int r), .un, .un, .un], S2⟩ ∧ okNet ⟨n.ps, n.ws, ts⟩) (fun hb => ?_) (fun hb => ?_) ?_
  · repeat' (first | (with_reducible refine wdixKB (by with_unfolding_all exact rfl) (lookT n) ?_) | with_reducible refine exC (slT) ?_ | done | fail)
    refine ⟨_, _, (by with_unfolding_all exact rfl), ⟨anyT, rfl, rfl⟩, ?_⟩
    rw [setT]
    repeat' (first | done | fail)
    refine ⟨_, rfl, okTs N ?_ ?_ (N.td.sublist (List.take_sublist _ _)) fun t ht => Ln.q t ((List.take_sublist _ _).subset ht)⟩
    · intro e
      have := congrArg List.length e
      rw [List.length_take] at this
      have h0 : n.ts.length ≠ 0 := fun e => N.t1 (List.length_eq_zero_iff.mp e)
      simp only [List.length_nil] at this
      omega
    · rw [List.length_take]; omega
  · repeat' (first | done | fail)
    exact ⟨n.ts, rfl, N⟩
  · rintro m ⟨ts, rfl, N2⟩
    refine wseq (RT.mono (N := fun m => ∃ (ts : List (List Str)) (S3 : Sto), m = ⟨[.val (.cel p), .val (.lst ((pairsL n.ps).map tx)), .un, .box (.k loreK) (loreX ⟨n.ps, n.ws, ts⟩), .val (.int r), .un, .un, .un], S3⟩ ∧ okNet ⟨n.ps, n.ws, ts⟩ ∧ PotAt S3 p (k + 75)) ?_ ?_ (fun _ _ h => h) (fun _ _ _ h => h))
    · repeat' (first | done | fail)
      refine ⟨fun hb => ?_, fun hb => ?_⟩
      · repeat' (first | with_reducible refine exC (len_tl2 _) ?_ | done | fail)
        refine ⟨fun hc => ?_, fun hc => ?_⟩
        · have hc : 14 < (pairsL n.ps).length := by have := of_decide_eq_true hc; omega
          have hpl : (pairsL n.ps).length ≤ 64 := Nat.le_trans (pairs_len n.ps) (Nat.mul_le_mul hp2 hp2)
          repeat' (first | done | fail)
          refine (r_some (many := 14) h2 (by omega) (by rw [List.length_map]; omega) (by rw [List.length_map]; omega)).use ?_
          rintro _ S3 ⟨ys, rest, rfl, hy, hyl, h3⟩
          obtain ⟨a, b, rfl, rfl, hab⟩ := inj_perm (un := unT) unT_tx hy
          rw [List.length_map] at hyl
          refine ⟨_, _, (by with_unfolding_all exact rfl), ⟨anyT, rfl, rfl⟩, ?_⟩
          rw [setT]
          repeat' (first | done | fail)
          refine ⟨a, S3, rfl, okTs N ?_ (by omega) ?_ ?_, h3.mono (by omega)⟩
          · intro e; rw [e] at hyl; cases hyl
          · exact (List.nodup_append.mp ((hab.nodup_iff).mpr (pairs_nd N.pd))).1
          · exact fun t ht => hab.subset (List.mem_append_left _ ht)
        · repeat' (first | done | fail)
          exact ⟨ts, S2, rfl, N2, h2.mono (by omega)⟩
      · repeat' (first | done | fail)
        exact ⟨ts, S2, rfl, N2, h2.mono (by omega)⟩
    · clear N2 h2
      rintro m ⟨ts, S3, rfl, N2, h3⟩
      obtain ⟨n', hn'⟩ : ∃ n' : Net3, n' = ⟨n.ps, n.ws, ts⟩ := ⟨_, rfl⟩
      rw [← hn'] at N2 ⊢
      have hp2 := N2.p2
      obtain ⟨t, ht⟩ : ∃ t, t = textOf (linesOf n') := ⟨_, rfl⟩
      have enet : ∀ S : Sto, f__law_net [loreD n'] S = .ok (netD t n') S := fun S => by rw [ht]; exact e__law_net S N2
      have etold : ∀ S : Sto, f__law_is_as_told [netD t n', loreD n'] S = .ok (.bl true) S := fun S => by rw [ht]; exact e_as_told S N2
      repeat' (first | (with_reducible refine wvarXB (by with_unfolding_all exact rfl) (toD_lore _) ?_) | (with_reducible refine wdixKV (by with_unfolding_all exact rfl) (dixP _) ?_) | done | dsimp only [List.cons_append, List.nil_append] | with_reducible refine Res.eq (enet _) ?_ | fail)
      refine (r_oddL h3 (by omega)).use ?_
      rintro od S4 ⟨hod, h4⟩
      have eadd : addD (lx n'.ps) (.lst [.str "nosuch", .non, .int 0, .tup [], .lst [], od]) = some (.lst (n'.ps.map .str ++ [.str "nosuch", .non, .int 0, .tup [], .lst [], od])) := by
        show (if small ((n'.ps.map D.str).length + 6) = true then _ else _) = _
        rw [if_pos (smL (by simp; omega))]
      repeat' (first | with_reducible refine exC (eadd) ?_ | done | fail)
      have hvs : ∀ d ∈ n'.ps.map D.str ++ [.str "nosuch", .non, .int 0, .tup [], .lst [], od], Vd d := by
        intro d hd
        rcases List.mem_append.mp hd with hd | hd
        · obtain ⟨x, hx, rfl⟩ := List.mem_map.mp hd
          exact Vd_str (N2.asc x hx) (N2.l8 x hx)
        · simp only [List.mem_cons, List.not_mem_nil, or_false] at hd
          have o : ∀ {d : D}, d ∈ oddL → Vd d := Vd_odd
          rcases hd with rfl | rfl | rfl | rfl | rfl | rfl
          · exact o (by simp [oddL])
          · exact o (by simp [oddL])
          · exact o (by simp [oddL])
          · exact o (by simp [oddL])
          · exact o (by simp [oddL])
          · exact o hod
      generalize hW : n'.ps.map D.str ++ [.str "nosuch", .non, .int 0, .tup [], .lst [], od] = vs at hvs ⊢
      refine wforL (I := fun rest m => ∃ (e2 e7 : Sl), m = ⟨[.val (.cel p), .val (.lst ((pairsL n.ps).map tx)), e2, .val (loreD n'), .val (.int r), .val (netD t n'), .val (.lst vs), e7], S4⟩ ∧ ∀ d ∈ rest, Vd d) ?_ ?_ _ _ ⟨_, _, rfl, hvs⟩
      · rintro d ds m ⟨e2, e7, rfl, hV⟩
        have hd := hV d (List.mem_cons_self ..)
        refine ⟨_, rfl, ?_⟩
        repeat' (first | done | fail)
        refine wforL (I := fun rest m => ∃ (e7 : Sl), m = ⟨[.val (.cel p), .val (.lst ((pairsL n.ps).map tx)), .val d, .val (loreD n'), .val (.int r), .val (netD t n'), .val (.lst vs), e7], S4⟩ ∧ ∀ d ∈ rest, Vd d) ?_ ?_ _ _ ⟨_, rfl, hvs⟩
        · rintro d' ds' m ⟨e7, rfl, hV'⟩
          have hd' := hV' d' (List.mem_cons_self ..)
          have ew : ∀ S : Sto, f__law_is_in_right [loreD n', netD t n', d, d'] S = .ok (.bl true) S := fun S => by rw [ht]; exact e_in_right S N2 hd hd'
          have eo : ∀ S : Sto, f__law_is_out_right [loreD n', netD t n', d, d'] S = .ok (.bl true) S := fun S => by rw [ht]; exact e_out_right S N2 hd hd'
          refine ⟨_, rfl, ?_⟩
          repeat' (first | done | dsimp only [List.cons_append, List.nil_append] | with_reducible refine Res.eq (ew _) ?_ | with_reducible refine Res.eq (eo _) ?_ | fail)
          exact ⟨_, rfl, fun x hx => hV' x (List.mem_cons_of_mem _ hx)⟩
        · rintro m ⟨e7, rfl, hV'⟩
          repeat' (first | done | fail)
          exact ⟨_, _, rfl, fun x hx => hV x (List.mem_cons_of_mem _ hx)⟩
      · rintro m ⟨e2, e7, rfl, hV⟩
        repeat' (first | done | dsimp only [List.cons_append, List.nil_append] | with_reducible refine Res.eq (etold _) ?_ | fail)
        exact ⟨rfl, h4.mono (by omega)⟩
theorem right_law : Right f_law 63 := fun ns hn => by
  suffices h : Res (f_law [.scr ns] []) (fun d _ => d = .bl true) nE by
    obtain ⟨d, S, e, rfl⟩ := h.ex
    exact ⟨S, e⟩
  obtain ⟨j, hj, e⟩ := e__law_cells ns 5 [] (by decide) hn
  refine wbody rfl ?_
  unfold g_law
  repeat' (first | done | dsimp only [List.cons_append, List.nil_append] | with_reducible refine Res.eq (e) ?_ | fail)
  refine wforL (I := fun rest m => ∃ (e1 e2 : Sl) (S' : Sto) (is : List Nat), m = ⟨[.val (.scr ns), e1, e2, .un], S'⟩ ∧ rest = is.map (fun i => D.int (i : Nat)) ∧ ∀ i ∈ is, i < 64) ?_ ?_ _ _ ⟨.un, .un, [], List.range j, rfl, rfl, fun i hi => by have := List.mem_range.mp hi; omega⟩
  · rintro d ds m ⟨e1, e2, S', is, rfl, hr, hi⟩
    cases is with
    | nil => cases hr
    | cons i is =>
      simp only [List.map_cons, List.cons.injEq] at hr
      obtain ⟨rfl, rfl⟩ := hr
      refine ⟨_, rfl, ?_⟩
      obtain ⟨S1, p1, p2⟩ := e__law_pot ns i (hi i (List.mem_cons_self ..)) S'
      repeat' (first | done | dsimp only [List.cons_append, List.nil_append] | with_reducible refine Res.eq (p1) ?_ | fail)
      refine ⟨_, range_ok (n := 2) (by decide), ?_⟩
      repeat' (first | done | fail)
      refine ⟨rfl, wcompL (I := fun rest acc m => ∃ (S2 : Sto) (k n : Nat), m = ⟨[.val (.scr ns), .val (.int i), .val (.cel S'.length), .un], S2⟩ ∧ acc = List.replicate n (.bl true) ∧ PotAt S2 S'.length k ∧ k + 80 * rest.length ≤ 160) ?_ ?_ _ _ _ ⟨S1, 0, 0, rfl, rfl, p2, ?_⟩⟩
      · rintro d ds acc m ⟨S2, k, n, rfl, rfl, hp, hk⟩
        rw [List.length_cons] at hk
        refine ⟨_, rfl, wyes ⟨fun _ => ?_, b_tf⟩⟩
        repeat' (first | done | fail)
        refine (r__law_right hp (by omega)).use ?_
        rintro _ S3 ⟨rfl, hp3⟩
        exact ⟨S3, k + 80, n + 1, rfl, by rw [List.replicate_succ'], hp3, by omega⟩
      · rintro acc m ⟨S2, k, n, rfl, rfl, hp, hk⟩
        refine wnil ⟨_, allD_true n, ?_⟩
        repeat' (first | done | fail)
        exact ⟨_, _, _, is, rfl, rfl, fun x hx => hi x (List.mem_cons_of_mem _ hx)⟩
      · exact Nat.le_refl 160
  · rintro m ⟨e1, e2, S', is, rfl, hr, hi⟩
    repeat' (first | done | fail)
    rfl
end Z


open PySem PySem.W PySem.Calls PyProof.Rows
set_option maxHeartbeats 0 in
theorem PySem.Challenge.cw_tiesums_k08_ties_put_in_and_taken_out_holds : PySem.Challenge.rw_tiesums_k08_ties_put_in_and_taken_out.Holds := by
  w_on; o_law
  refine HandSHeadRun.head_any (r := OpenLaw.row PySem.Challenge.rw_tiesums_k08_ties_put_in_and_taken_out) (q := view (OpenLaw.row PySem.Challenge.rw_tiesums_k08_ties_put_in_and_taken_out).prog [59]) (H := Z.hkD) (ob := Z.obD) (M := 20000) (loose := Z.looseD) (d := HandSHeadRun.topDef (OpenLaw.row PySem.Challenge.rw_tiesums_k08_ties_put_in_and_taken_out).prog 59) (kwd := []) Z.obD_eq
    (by kernel_rfl) (fun s => by kernel_rfl) Z.runD (by kernel_rfl) (by kernel_rfl) (by kernel_rfl) (by rfl) (by first | assumption | decide +kernel) (by decide +kernel) ⟨rfl, rfl, rfl, rfl, rfl, by decide +kernel⟩ ?hw ?hc
  case hw => w_witness2
  case hc =>
    refine Z.walkG (l := PySem.Challenge.rw_tiesums_k08_ties_put_in_and_taken_out) (n := 63) (k := 11) (x := "_law_script") (φ := Z.f_law) rfl (by decide) (by kernel_rfl) ⟨rfl, by decide, by decide⟩ Z.right_law ?F
    intro w mg fa h Y G hmg0
    obtain ⟨K, KX, c⟩ := Y
    have hmg : mg ("law" : PySem.Str) = some (.ref fa) := by
      have e : (HandSHeadRun.topDef (OpenLaw.row PySem.Challenge.rw_tiesums_k08_ties_put_in_and_taken_out).prog 59).name = ("law" : PySem.Str) := by kernel_rfl
      rw [← e]
      exact hmg0
    obtain ⟨fd, hb, hF⟩ := Z.facts (w := w) (Γ := ⟨K, Z.clsOf K Z.ecD, Z.tabsY K Z.tfD, Z.ownOf K Z.clD⟩) KX G hmg rfl rfl rfl c
    refine ⟨⟨K, Z.clsOf K Z.ecD, Z.tabsY K Z.tfD, Z.ownOf K Z.clD⟩, fd, Z.tfD.map (He.cT K), fun p hp => ?_, Z.tabsAt_of KX c.y, KX, hb, hF⟩
    obtain ⟨r, hr, rfl⟩ := List.mem_map.mp hp
    exact ⟨_, List.mem_map.mpr ⟨r, hr, rfl⟩, rfl⟩

