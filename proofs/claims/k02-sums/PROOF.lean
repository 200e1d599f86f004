import PyProof.Rows.All
import Wide.All
import OpenK.AllK
import Wide.FinOn
import HandS.ForMost
import HandS.ForExc
import HandS.Evl
import HandS.Walk
import HandS.Wide
import HandS.TupAny
import HandS.TupMul
import HandS.Deep
import HandS.IsInst
import HandS.Conv
import HandS.Zip
import HandS.Style
import HandS.NoneIn
import HandS.Defaults
import PyProof.StrLawsRepr
import HandS.HeadEnd
import HandS.Head0
import HandS.Head1
import HandS.Head2
import HandS.HeadHook1
import HandS.HeadHook2
import PySem.Challenge.RW_tiesums_k02_whole_sums_of_fractions
set_option Elab.async false
set_option linter.all false
set_option maxRecDepth 100000
set_option maxHeartbeats 2000000
/-! Z1: data by value, states, the relation of both with the hand layer's slots and heap -/
namespace Z
open PySem PySem.Spec PyProof.Rows L2

/-- python data as trees; cel: a list that changes, by its number in the store; obj: an object of the c-th class; scr: the script -/
inductive D where
  | non | bl (b : Bool) | int (i : Int) | str (x : Str)
  | tup (xs : List D) | lst (xs : List D) | dct (ks vs : List D)
  | cel (n : Nat) | obj (c : Nat) (fs : List D) | scr (ns : List Int)
instance : Inhabited D := ⟨.non⟩
/-- a slot: not set, a value, a list that is being built and that this slot alone holds -/
inductive Sl where
  | un | val (d : D) | bld (xs : List D)
structure M where
  e : List Sl
  S : List (List D)
inductive R (α : Type) where
  | ok (a : α) (m : M) | exc (c : Nat) (d : D) (m : M) | bad
def R.bind {α β : Type} (r : R α) (k : α → M → R β) : R β := match r with
  | .ok a m => k a m
  | .exc c d m => .exc c d m
  | .bad => .bad
/-- an answer that may be missing -/
def ofO {α : Type} (o : Option α) (m : M) : R α := match o with
  | some a => .ok a m
  | none => .bad
abbrev Den := M → R D
abbrev DenL := M → R (List D)

/-- what is known for ever: frozen objects, the cells' addresses -/
structure Fz where
  G : Hp
  r : List Addr
structure Ext (z z' : Fz) : Prop where
  g : ∀ a o, z.G a = some o → z'.G a = some o
  r : ∃ t, z'.r = z.r ++ t
theorem Ext.refl (z : Fz) : Ext z z := ⟨fun _ _ h => h, [], (List.append_nil _).symm⟩
theorem Ext.trans {z z1 z2 : Fz} (a : Ext z z1) (b : Ext z1 z2) : Ext z z2 := by
  obtain ⟨s, hs⟩ := a.r
  obtain ⟨t, ht⟩ := b.r
  exact ⟨fun x o h => b.g x o (a.g x o h), s ++ t, by rw [ht, hs, List.append_assoc]⟩
theorem Ext.at {z z' : Fz} (e : Ext z z') {n : Nat} {a : Addr} (h : z.r[n]? = some a) : z'.r[n]? = some a := by
  obtain ⟨t, ht⟩ := e.r
  rw [ht, List.getElem?_append_left (List.getElem?_eq_some_iff.mp h).1]
  exact h
theorem Ext.mem {z z' : Fz} (e : Ext z z') {a : Addr} (h : a ∈ z.r) : a ∈ z'.r := by
  obtain ⟨t, ht⟩ := e.r
  rw [ht]
  exact List.mem_append_left _ h

/-- the classes of errors by number -/
structure Gm where
  K : PySem.W.Frag
  cls : Nat → Addr
def keyD : Key → D
  | .inl i => .int i
  | .inr x => .str x
/-- an error object that is held as a value: its class, its own dict -/
def ErO (C dx a : Addr) : HO := .ext fun h => ∃ (oe : Obj) (vs : Array Value), h.get? a = some oe ∧ Zc (.ref C) (some dx) oe ∧ oe.data = .fields vs

mutual
def Rep (Γ : Gm) (z : Fz) : D → V → Prop
  | .non, v => v = .non
  | .bl b, v => v = .bl b
  | .int i, v => v = .int i
  | .str x, v => v = .str x
  | .tup ds, v => ∃ a vs, v = .ref a ∧ SqT Γ.K z.G a vs ∧ RepL Γ z ds vs
  | .lst ds, v => ∃ a vs, v = .ref a ∧ z.G a = some (.lst vs) ∧ RepL Γ z ds vs
  | .dct ks ds, v => ∃ a kvs, v = .ref a ∧ z.G a = some (.dK kvs) ∧ ks = kvs.map (fun p => keyD p.1) ∧ RepL Γ z ds (kvs.map (·.2))
  | .cel n, v => ∃ a, v = .ref a ∧ z.r[n]? = some a
  | .obj c ds, v => ∃ a dx u, v = .ref a ∧ z.G a = some (ErO (Γ.cls c) dx a) ∧ z.G dx = some (.xd [(("value" : Str), u)]) ∧ RepL Γ z ds [u]
  | .scr ns, v => ∃ a, v = .ref a ∧ SqL Γ.K z.G a (ns.map V.int)
def RepL (Γ : Gm) (z : Fz) : List D → List V → Prop
  | [], vs => vs = []
  | d :: ds, vs => ∃ v ws, vs = v :: ws ∧ Rep Γ z d v ∧ RepL Γ z ds ws
end

theorem sqT_mono {K : PySem.W.Frag} {G G' : Hp} {a : Addr} {vs : List V} (e : ∀ a o, G a = some o → G' a = some o) (h : SqT K G a vs) : SqT K G' a vs := Evl.ex_t e h
theorem sqL_mono {K : PySem.W.Frag} {G G' : Hp} {a : Addr} {vs : List V} (e : ∀ a o, G a = some o → G' a = some o) (h : SqL K G a vs) : SqL K G' a vs := Evl.ex_l e h

mutual
theorem Rep.mono {Γ : Gm} {z z' : Fz} (e : Ext z z') : ∀ (d : D) {v : V}, Rep Γ z d v → Rep Γ z' d v
  | .non, _, h => by simp only [Rep] at h ⊢; exact h
  | .bl _, _, h => by simp only [Rep] at h ⊢; exact h
  | .int _, _, h => by simp only [Rep] at h ⊢; exact h
  | .str _, _, h => by simp only [Rep] at h ⊢; exact h
  | .tup ds, _, h => by
    simp only [Rep] at h ⊢
    obtain ⟨a, vs, h1, h2, h3⟩ := h
    exact ⟨a, vs, h1, sqT_mono e.g h2, RepL.mono e ds h3⟩
  | .lst ds, _, h => by
    simp only [Rep] at h ⊢
    obtain ⟨a, vs, h1, h2, h3⟩ := h
    exact ⟨a, vs, h1, e.g _ _ h2, RepL.mono e ds h3⟩
  | .dct ks ds, _, h => by
    simp only [Rep] at h ⊢
    obtain ⟨a, kvs, h1, h2, h3, h4⟩ := h
    exact ⟨a, kvs, h1, e.g _ _ h2, h3, RepL.mono e ds h4⟩
  | .cel n, _, h => by
    simp only [Rep] at h ⊢
    obtain ⟨a, h1, h2⟩ := h
    exact ⟨a, h1, e.at h2⟩
  | .obj c ds, _, h => by
    simp only [Rep] at h ⊢
    obtain ⟨a, dx, u, h1, h2, h3, h4⟩ := h
    exact ⟨a, dx, u, h1, e.g _ _ h2, e.g _ _ h3, RepL.mono e ds h4⟩
  | .scr ns, _, h => by
    simp only [Rep] at h ⊢
    obtain ⟨a, h1, h2⟩ := h
    exact ⟨a, h1, sqL_mono e.g h2⟩
theorem RepL.mono {Γ : Gm} {z z' : Fz} (e : Ext z z') : ∀ (ds : List D) {vs : List V}, RepL Γ z ds vs → RepL Γ z' ds vs
  | [], _, h => by simp only [RepL] at h ⊢; exact h
  | d :: ds, _, h => by
    simp only [RepL] at h ⊢
    obtain ⟨v, ws, h1, h2, h3⟩ := h
    exact ⟨v, ws, h1, Rep.mono e d h2, RepL.mono e ds h3⟩
end

section
variable {Γ : Gm} {z : Fz}
theorem RepL.nil : RepL Γ z [] [] := by simp only [RepL]
theorem RepL.cons {d : D} {ds : List D} {v : V} {vs : List V} (h : Rep Γ z d v) (t : RepL Γ z ds vs) : RepL Γ z (d :: ds) (v :: vs) := by
  simp only [RepL]
  exact ⟨v, vs, rfl, h, t⟩
theorem RepL.length : ∀ {ds : List D} {vs : List V}, RepL Γ z ds vs → ds.length = vs.length
  | [], _, h => by simp only [RepL] at h; subst h; rfl
  | d :: ds, _, h => by
    simp only [RepL] at h
    obtain ⟨v, ws, rfl, _, h3⟩ := h
    simp only [List.length_cons, RepL.length h3]
theorem RepL.get : ∀ {ds : List D} {vs : List V} {i : Nat} {d : D}, RepL Γ z ds vs → ds[i]? = some d → ∃ v, vs[i]? = some v ∧ Rep Γ z d v
  | [], _, _, _, _, e => by simp at e
  | d :: ds, _, 0, _, h, e => by
    simp only [RepL] at h
    obtain ⟨v, ws, rfl, h2, _⟩ := h
    simp at e
    subst e
    exact ⟨v, rfl, h2⟩
  | d :: ds, _, i + 1, _, h, e => by
    simp only [RepL] at h
    obtain ⟨v, ws, rfl, _, h3⟩ := h
    obtain ⟨u, h4, h5⟩ := RepL.get (i := i) h3 (by simpa using e)
    exact ⟨u, by simpa using h4, h5⟩
theorem RepL.append : ∀ {ds es : List D} {vs ws : List V}, RepL Γ z ds vs → RepL Γ z es ws → RepL Γ z (ds ++ es) (vs ++ ws)
  | [], _, _, _, h, k => by simp only [RepL] at h; subst h; exact k
  | d :: ds, _, _, _, h, k => by
    simp only [RepL] at h
    obtain ⟨v, us, rfl, h2, h3⟩ := h
    exact .cons h2 (h3.append k)
theorem RepL.snoc {ds : List D} {d : D} {vs : List V} {v : V} (h : RepL Γ z ds vs) (k : Rep Γ z d v) : RepL Γ z (ds ++ [d]) (vs ++ [v]) := h.append (.cons k .nil)
theorem RepL.take : ∀ {ds : List D} {vs : List V} (n : Nat), RepL Γ z ds vs → RepL Γ z (ds.take n) (vs.take n)
  | _, _, 0, _ => by simp only [List.take_zero]; exact .nil
  | [], _, n + 1, h => by simp only [RepL] at h; subst h; exact .nil
  | d :: ds, _, n + 1, h => by
    simp only [RepL] at h
    obtain ⟨v, us, rfl, h2, h3⟩ := h
    exact .cons h2 (h3.take n)
theorem RepL.drop : ∀ {ds : List D} {vs : List V} (n : Nat), RepL Γ z ds vs → RepL Γ z (ds.drop n) (vs.drop n)
  | _, _, 0, h => h
  | [], _, n + 1, h => by simp only [RepL] at h; subst h; exact .nil
  | d :: ds, _, n + 1, h => by
    simp only [RepL] at h
    obtain ⟨v, us, rfl, h2, h3⟩ := h
    exact h3.drop n
theorem RepL.set : ∀ {ds : List D} {vs : List V} {d : D} {v : V} (n : Nat), RepL Γ z ds vs → Rep Γ z d v → RepL Γ z (ds.set n d) (vs.set n v)
  | [], _, _, _, _, h, _ => by simp only [RepL] at h; subst h; exact .nil
  | d :: ds, _, _, _, 0, h, k => by
    simp only [RepL] at h
    obtain ⟨v, us, rfl, h2, h3⟩ := h
    exact .cons k h3
  | d :: ds, _, _, _, n + 1, h, k => by
    simp only [RepL] at h
    obtain ⟨v, us, rfl, h2, h3⟩ := h
    exact .cons h2 (h3.set n k)
theorem RepL.one {d : D} {vs : List V} (h : RepL Γ z [d] vs) : ∃ v, vs = [v] ∧ Rep Γ z d v := by
  simp only [RepL] at h
  obtain ⟨v, ws, rfl, h2, rfl⟩ := h
  exact ⟨v, rfl, h2⟩
theorem RepL.two {d e : D} {vs : List V} (h : RepL Γ z [d, e] vs) : ∃ v u, vs = [v, u] ∧ Rep Γ z d v ∧ Rep Γ z e u := by
  simp only [RepL] at h
  obtain ⟨v, ws, rfl, h2, u, us, rfl, h3, rfl⟩ := h
  exact ⟨v, u, rfl, h2, h3⟩
theorem RepL.ints : ∀ (ns : List Int), RepL Γ z (ns.map D.int) (ns.map V.int)
  | [] => .nil
  | n :: ns => .cons (by simp only [Rep]) (RepL.ints ns)
end

theorem nodupIx {α : Type} : ∀ {l : List α} {i j : Nat} {x : α}, l.Nodup → l[i]? = some x → l[j]? = some x → i = j
  | [], _, _, _, _, h, _ => by simp at h
  | a :: l, 0, 0, _, _, _, _ => rfl
  | a :: l, 0, j + 1, x, hn, h1, h2 => by
    simp at h1
    subst h1
    exact absurd (List.mem_of_getElem? (by simpa using h2)) (List.nodup_cons.mp hn).1
  | a :: l, i + 1, 0, x, hn, h1, h2 => by
    simp at h2
    subst h2
    exact absurd (List.mem_of_getElem? (by simpa using h1)) (List.nodup_cons.mp hn).1
  | a :: l, i + 1, j + 1, x, hn, h1, h2 => by
    exact congrArg (· + 1) (nodupIx (x := x) (List.nodup_cons.mp hn).2 (by simpa using h1) (by simpa using h2))
/-- a frame's entry: the heap, what was known -/
structure Bs where
  H : Hp
  z : Fz
  /-- what of the entry's heap may change besides the cells -/
  x : List Addr
def SlOk (Γ : Gm) (B : Bs) (z : Fz) (H : Hp) : Sl → Option V → Prop
  | .un, _ => True
  | .val d, w => ∃ v, w = some v ∧ Rep Γ z d v
  | .bld xs, w => ∃ a vs, w = some (.ref a) ∧ H a = some (.lst vs) ∧ RepL Γ z xs vs ∧ z.G a = none ∧ a ∉ z.r ∧ (B.H a = none ∨ a ∈ B.x)
/-- what stands of store and frozen things, without slots -/
structure Rf (Γ : Gm) (z : Fz) (S : List (List D)) (H : Hp) : Prop where
  sub : ∀ a o, z.G a = some o → H a = some o
  slen : S.length = z.r.length
  sto : ∀ (n : Nat) (xs : List D) (a : Addr), S[n]? = some xs → z.r[n]? = some a → ∃ vs, H a = some (.lst vs) ∧ RepL Γ z xs vs
  out : ∀ a ∈ z.r, z.G a = none
  rnd : z.r.Nodup
/-- since the entry: what stood stands but the cells; what is new was free -/
structure Sn (x : List Addr) (z z' : Fz) (H H' : Hp) : Prop where
  ext : Ext z z'
  keep : ∀ a o, H a = some o → a ∉ z.r → a ∉ x → H' a = some o
  live : ∀ a o, H a = some o → ∃ o', H' a = some o'
  gnew : ∀ a o, z'.G a = some o → z.G a = some o ∨ H a = none ∨ a ∈ x
  rnew : ∀ a ∈ z'.r, a ∈ z.r ∨ H a = none ∨ a ∈ x
theorem Sn.refl (x : List Addr) (z : Fz) (H : Hp) : Sn x z z H H := ⟨Ext.refl z, fun _ _ h _ _ => h, fun _ o h => ⟨o, h⟩, fun _ _ h => .inl h, fun _ h => .inl h⟩
theorem Sn.back {x : List Addr} {z z' : Fz} {H H' : Hp} (a : Sn x z z' H H') {y : Addr} (q : H' y = none) : H y = none := by
  cases e : H y with
  | none => rfl
  | some u => obtain ⟨o, h⟩ := a.live y u e; rw [h] at q; cases q
/-- two steps: what may change in the second one may change in the first one, or was free -/
theorem Sn.trans {x y : List Addr} {z z1 z2 : Fz} {H H1 H2 : Hp} (a : Sn x z z1 H H1) (b : Sn y z1 z2 H1 H2) (hy : ∀ c ∈ y, H c = none ∨ c ∈ x) : Sn x z z2 H H2 where
  ext := a.ext.trans b.ext
  keep := fun c o h hn hx => b.keep c o (a.keep c o h hn hx) (fun hm => by
    rcases a.rnew c hm with q | q | q
    · exact hn q
    · rw [h] at q; cases q
    · exact hx q) fun hm => by
    rcases hy c hm with q | q
    · rw [h] at q; cases q
    · exact hx q
  live := fun c o h => let ⟨o1, h1⟩ := a.live c o h; b.live c o1 h1
  gnew := fun c o h => by
    rcases b.gnew c o h with q | q | q
    · exact a.gnew c o q
    · exact .inr (.inl (a.back q))
    · exact .inr (hy c q)
  rnew := fun c h => by
    rcases b.rnew c h with q | q | q
    · exact a.rnew c q
    · exact .inr (.inl (a.back q))
    · exact .inr (hy c q)
theorem Sn.trans0 {x : List Addr} {z z1 z2 : Fz} {H H1 H2 : Hp} (a : Sn x z z1 H H1) (b : Sn [] z1 z2 H1 H2) : Sn x z z2 H H2 := a.trans b (fun _ h => nomatch h)
structure Rl (Γ : Gm) (B : Bs) (z : Fz) (m : M) (σ : L2.St) (H : Hp) : Prop where
  rf : Rf Γ z m.S H
  sn : Sn B.x B.z z B.H H
  len : m.e.length = σ.length
  slot : ∀ (i : Nat) (s : Sl) (w : Option V), m.e[i]? = some s → σ[i]? = some w → SlOk Γ B z H s w
  apart : ∀ (i j : Nat) (xs ys : List D) (a : Addr), i ≠ j → m.e[i]? = some (.bld xs) → m.e[j]? = some (.bld ys) → σ[i]? = some (some (.ref a)) → σ[j]? = some (some (.ref a)) → False

section
variable {Γ : Gm} {B : Bs} {z z' : Fz} {m : M} {σ : L2.St} {H H' : Hp} {S : List (List D)}
/-- behind a call: the store and the frozen part may have grown -/
theorem Rl.call (r : Rl Γ B z m σ H) (f : Rf Γ z' S H') (st : Sn [] z z' H H') : Rl Γ B z' ⟨m.e, S⟩ σ H' where
  rf := f
  sn := r.sn.trans0 st
  len := r.len
  slot := fun i s w h1 h2 => by
    have q := r.slot i s w h1 h2
    cases s with
    | un => trivial
    | val d =>
      obtain ⟨v, e, r⟩ := q
      exact ⟨v, e, Rep.mono st.ext d r⟩
    | bld xs =>
      obtain ⟨a, vs, e, q1, q2, q3, q4, q5⟩ := q
      refine ⟨a, vs, e, st.keep a _ q1 q4 (fun q => nomatch q), RepL.mono st.ext xs q2, ?_, ?_, q5⟩
      · cases g : z'.G a with
        | none => rfl
        | some o =>
          rcases st.gnew a o g with h | h | h
          · rw [q3] at h; cases h
          · rw [q1] at h; cases h
          · exact nomatch h
      · intro hm
        rcases st.rnew a hm with h | h | h
        · exact q4 h
        · rw [q1] at h; cases h
        · exact nomatch h
  apart := r.apart
def Fz.add (z : Fz) (p : Addr) (o : HO) : Fz := ⟨upd z.G p o, z.r⟩
def Fz.cel (z : Fz) (p : Addr) : Fz := ⟨z.G, z.r ++ [p]⟩
theorem Rf.gnone (f : Rf Γ z S H) {p : Addr} (h : H p = none) : z.G p = none := by
  cases g : z.G p with
  | none => rfl
  | some o => rw [f.sub p o g] at h; cases h
theorem Rf.rnone (f : Rf Γ z S H) {p : Addr} (h : H p = none) : p ∉ z.r := fun hm => by
  obtain ⟨n, hn⟩ := List.getElem?_of_mem hm
  have hl : n < S.length := by rw [f.slen]; exact (List.getElem?_eq_some_iff.mp hn).1
  obtain ⟨vs, q, _⟩ := f.sto n S[n] p (List.getElem?_eq_getElem hl) hn
  rw [q] at h; cases h
theorem ext_add {p : Addr} {o : HO} (h : z.G p = none) : Ext z (z.add p o) :=
  ⟨fun a u e => by show upd z.G p o a = _; rw [upd_ne (ne_of_none e h)]; exact e, [], (List.append_nil _).symm⟩
theorem ext_cel {p : Addr} : Ext z (z.cel p) := ⟨fun _ _ e => e, [p], rfl⟩
/-- a new frozen object -/
theorem Rf.grow {p : Addr} {o : HO} (f : Rf Γ z S H) (h : H p = none) : Rf Γ (z.add p o) S (upd H p o) where
  sub := fun a u e => by
    have e : upd z.G p o a = some u := e
    by_cases ha : a = p
    · subst ha; rw [upd_same] at e ⊢; exact e
    · rw [upd_ne ha] at e ⊢; exact f.sub a u e
  slen := f.slen
  sto := fun n xs a h1 h2 => by
    obtain ⟨vs, q1, q2⟩ := f.sto n xs a h1 h2
    exact ⟨vs, by rw [upd_ne (ne_of_none q1 h)]; exact q1, RepL.mono (ext_add (f.gnone h)) xs q2⟩
  out := fun a ha => by
    show upd z.G p o a = none
    rw [upd_ne (fun (e : a = p) => f.rnone h (by rw [← e]; exact ha))]
    exact f.out a ha
  rnd := f.rnd
theorem sn_grow {p : Addr} {o : HO} (f : Rf Γ z S H) (h : H p = none) : Sn [] z (z.add p o) H (upd H p o) where
  ext := ext_add (f.gnone h)
  keep := fun a u e _ _ => by rw [upd_ne (ne_of_none e h)]; exact e
  live := fun a u e => ⟨u, by rw [upd_ne (ne_of_none e h)]; exact e⟩
  gnew := fun a u e => by
    have e : upd z.G p o a = some u := e
    by_cases ha : a = p
    · subst ha; exact .inr (.inl h)
    · rw [upd_ne ha] at e; exact .inl e
  rnew := fun a ha => .inl ha
theorem Rl.grow {p : Addr} {o : HO} (r : Rl Γ B z m σ H) (h : H p = none) : Rl Γ B (z.add p o) m σ (upd H p o) := r.call (r.rf.grow h) (sn_grow r.rf h)
/-- a new object that nobody knows yet -/
theorem sn_limbo {p : Addr} {o : HO} (h : H p = none) : Sn [] z z H (upd H p o) where
  ext := Ext.refl z
  keep := fun a u e _ _ => by rw [upd_ne (ne_of_none e h)]; exact e
  live := fun a u e => ⟨u, by rw [upd_ne (ne_of_none e h)]; exact e⟩
  gnew := fun a u e => .inl e
  rnew := fun a ha => .inl ha
theorem Rf.limbo {p : Addr} {o : HO} (f : Rf Γ z S H) (h : H p = none) : Rf Γ z S (upd H p o) where
  sub := fun a u e => by rw [upd_ne (fun q => by rw [q, f.gnone h] at e; cases e)]; exact f.sub a u e
  slen := f.slen
  sto := fun n xs a h1 h2 => by
    obtain ⟨vs, q1, q2⟩ := f.sto n xs a h1 h2
    exact ⟨vs, by rw [upd_ne (ne_of_none q1 h)]; exact q1, q2⟩
  out := f.out
  rnd := f.rnd
/-- a list at p that no slot, no cell and nothing frozen is -/
structure Lim (Γ : Gm) (B : Bs) (z : Fz) (m : M) (σ : L2.St) (H : Hp) (p : Addr) (xs : List D) : Prop where
  ex : ∃ vs, H p = some (.lst vs) ∧ RepL Γ z xs vs
  g : z.G p = none
  r : p ∉ z.r
  b : B.H p = none ∨ p ∈ B.x
  sl : ∀ (i : Nat) (ys : List D), m.e[i]? = some (.bld ys) → σ[i]? ≠ some (some (.ref p))
theorem Rl.limbo {p : Addr} {xs : List D} {vs : List V} (r : Rl Γ B z m σ H) (h : H p = none) (q : RepL Γ z xs vs) : Rl Γ B z m σ (upd H p (.lst vs)) ∧ Lim Γ B z m σ (upd H p (.lst vs)) p xs := by
  refine ⟨r.call (r.rf.limbo h) (sn_limbo h), ⟨vs, upd_same, q⟩, r.rf.gnone h, r.rf.rnone h, .inl (r.sn.back h), fun i ys h1 h2 => ?_⟩
  obtain ⟨a, us, e, q1, _⟩ := r.slot i _ _ h1 h2
  cases e
  rw [q1] at h; cases h
/-- it is frozen -/
theorem Lim.freeze {p : Addr} {xs : List D} (l : Lim Γ B z m σ H p xs) (r : Rl Γ B z m σ H) : ∃ z', Ext z z' ∧ Rl Γ B z' m σ H ∧ Rep Γ z' (.lst xs) (.ref p) := by
  obtain ⟨vs, h1, h2⟩ := l.ex
  have ex : Ext z (z.add p (.lst vs)) := ext_add l.g
  refine ⟨z.add p (.lst vs), ex, ⟨⟨fun a o e => ?_, r.rf.slen, fun n ys a e1 e2 => ?_, fun a ha => ?_, r.rf.rnd⟩, ⟨r.sn.ext.trans ex, r.sn.keep, r.sn.live, fun a o e => ?_, r.sn.rnew⟩, r.len, fun i s w e1 e2 => ?_, r.apart⟩, ?_⟩
  · have e : upd z.G p (.lst vs) a = some o := e
    by_cases ha : a = p
    · subst ha; rw [upd_same] at e; cases e; exact h1
    · rw [upd_ne ha] at e; exact r.rf.sub a o e
  · obtain ⟨us, q1, q2⟩ := r.rf.sto n ys a e1 e2
    exact ⟨us, q1, RepL.mono ex ys q2⟩
  · show upd z.G p (.lst vs) a = none
    rw [upd_ne (fun (e : a = p) => l.r (by rw [← e]; exact ha))]
    exact r.rf.out a ha
  · have e : upd z.G p (.lst vs) a = some o := e
    by_cases ha : a = p
    · subst ha; exact .inr l.b
    · rw [upd_ne ha] at e; exact r.sn.gnew a o e
  · have q := r.slot i s w e1 e2
    cases s with
    | un => trivial
    | val d =>
      obtain ⟨v, e, t⟩ := q
      exact ⟨v, e, Rep.mono ex d t⟩
    | bld ys =>
      obtain ⟨a, us, e, q1, q2, q3, q4, q5⟩ := q
      refine ⟨a, us, e, q1, RepL.mono ex ys q2, ?_, q4, q5⟩
      show upd z.G p (.lst vs) a = none
      rw [upd_ne (fun ea => l.sl i ys e1 (by rw [e2, e, ea]))]
      exact q3
  · simp only [Rep]
    exact ⟨p, vs, rfl, by show upd z.G p (.lst vs) p = _; rw [upd_same], RepL.mono ex xs h2⟩
/-- it becomes a cell -/
theorem Lim.cel {p : Addr} {xs : List D} (l : Lim Γ B z m σ H p xs) (r : Rl Γ B z m σ H) : ∃ z', Ext z z' ∧ Rl Γ B z' ⟨m.e, m.S ++ [xs]⟩ σ H ∧ Rep Γ z' (.cel m.S.length) (.ref p) := by
  obtain ⟨vs, h1, h2⟩ := l.ex
  have ex : Ext z (z.cel p) := ext_cel
  refine ⟨z.cel p, ex, ⟨⟨r.rf.sub, by simp [Fz.cel, r.rf.slen], fun n ys a e1 e2 => ?_, fun a ha => ?_, ?_⟩, ⟨r.sn.ext.trans ex, r.sn.keep, r.sn.live, r.sn.gnew, fun a ha => ?_⟩, r.len, fun i s w e1 e2 => ?_, r.apart⟩, ?_⟩
  · have e2 : (z.r ++ [p])[n]? = some a := e2
    by_cases hn : n < m.S.length
    · rw [List.getElem?_append_left hn] at e1
      rw [List.getElem?_append_left (by rw [← r.rf.slen]; exact hn)] at e2
      obtain ⟨us, q1, q2⟩ := r.rf.sto n ys a e1 e2
      exact ⟨us, q1, RepL.mono ex ys q2⟩
    · have hn' : n = m.S.length := by
        have := (List.getElem?_eq_some_iff.mp e1).1
        simp at this; omega
      subst hn'
      rw [List.getElem?_append_right (Nat.le_refl _)] at e1
      rw [r.rf.slen, List.getElem?_append_right (Nat.le_refl _)] at e2
      simp at e1 e2
      subst e1; subst e2
      exact ⟨vs, h1, RepL.mono ex xs h2⟩
  · have ha : a ∈ z.r ++ [p] := ha
    rcases List.mem_append.mp ha with h | h
    · exact r.rf.out a h
    · rw [List.mem_singleton.mp h]; exact l.g
  · show (z.r ++ [p]).Nodup
    exact List.nodup_append.mpr ⟨r.rf.rnd, by simp, fun a ha b hb e => by
      rw [List.mem_singleton.mp hb] at e
      exact l.r (e ▸ ha)⟩
  · have ha : a ∈ z.r ++ [p] := ha
    rcases List.mem_append.mp ha with h | h
    · exact r.sn.rnew a h
    · rw [List.mem_singleton.mp h]; exact .inr l.b
  · have q := r.slot i s w e1 e2
    cases s with
    | un => trivial
    | val d =>
      obtain ⟨v, e, t⟩ := q
      exact ⟨v, e, Rep.mono ex d t⟩
    | bld ys =>
      obtain ⟨a, us, e, q1, q2, q3, q4, q5⟩ := q
      refine ⟨a, us, e, q1, RepL.mono ex ys q2, q3, fun hm => ?_, q5⟩
      have hm : a ∈ z.r ++ [p] := hm
      rcases List.mem_append.mp hm with h | h
      · exact q4 h
      · exact l.sl i ys e1 (by rw [e2, e, List.mem_singleton.mp h])
  · simp only [Rep]
    refine ⟨p, rfl, ?_⟩
    show (z.r ++ [p])[m.S.length]? = some p
    rw [r.rf.slen, List.getElem?_append_right (Nat.le_refl _)]
    simp
/-- a slot is set -/
theorem Rl.set {i : Nat} {s : Sl} {w : Option V} (r : Rl Γ B z m σ H) (h : SlOk Γ B z H s w) (ap : ∀ xs a, s = .bld xs → w = some (.ref a) → ∀ (j : Nat) (ys : List D), m.e[j]? = some (.bld ys) → σ[j]? ≠ some (some (.ref a))) :
    Rl Γ B z ⟨m.e.set i s, m.S⟩ (σ.set i w) H where
  rf := r.rf
  sn := r.sn
  len := by simp [r.len]
  slot := fun j t u e1 e2 => by
    have e1 : (m.e.set i s)[j]? = some t := e1
    by_cases hj : i = j
    · subst hj
      have hl : i < m.e.length := by
        have := (List.getElem?_eq_some_iff.mp e1).1
        simpa using this
      rw [List.getElem?_set_self hl] at e1
      rw [List.getElem?_set_self (by rw [← r.len]; exact hl)] at e2
      cases e1; cases e2
      exact h
    · rw [List.getElem?_set_ne hj] at e1 e2
      exact r.slot j t u e1 e2
  apart := fun j k xs ys a hjk f1 f2 e3 e4 => by
    have e1 : (m.e.set i s)[j]? = some (.bld xs) := f1
    have e2 : (m.e.set i s)[k]? = some (.bld ys) := f2
    clear f1 f2
    by_cases hj : i = j
    · subst hj
      have hl : i < m.e.length := by
        have := (List.getElem?_eq_some_iff.mp e1).1
        simpa using this
      rw [List.getElem?_set_self hl] at e1
      rw [List.getElem?_set_self (by rw [← r.len]; exact hl)] at e3
      rw [List.getElem?_set_ne hjk] at e2 e4
      have q1 := Option.some.inj e1
      have q3 := Option.some.inj e3
      exact ap xs a q1 q3 k ys e2 e4
    · rw [List.getElem?_set_ne hj] at e1 e3
      by_cases hk : i = k
      · subst hk
        have hl : i < m.e.length := by
          have := (List.getElem?_eq_some_iff.mp e2).1
          simpa using this
        rw [List.getElem?_set_self hl] at e2
        rw [List.getElem?_set_self (by rw [← r.len]; exact hl)] at e4
        have q2 := Option.some.inj e2
        have q4 := Option.some.inj e4
        exact ap ys a q2 q4 j xs e1 e3
      · rw [List.getElem?_set_ne hk] at e2 e4
        exact r.apart j k xs ys a hjk e1 e2 e3 e4
theorem Rl.setVal {i : Nat} {d : D} {v : V} (r : Rl Γ B z m σ H) (h : Rep Γ z d v) : Rl Γ B z ⟨m.e.set i (.val d), m.S⟩ (σ.set i (some v)) H :=
  r.set ⟨v, rfl, h⟩ (fun _ _ e => nomatch e)
theorem Rl.setUn {i : Nat} {w : Option V} (r : Rl Γ B z m σ H) : Rl Γ B z ⟨m.e.set i .un, m.S⟩ (σ.set i w) H :=
  r.set trivial (fun _ _ e => nomatch e)
theorem Lim.setBld {i : Nat} {p : Addr} {xs : List D} (l : Lim Γ B z m σ H p xs) (r : Rl Γ B z m σ H) : Rl Γ B z ⟨m.e.set i (.bld xs), m.S⟩ (σ.set i (some (.ref p))) H := by
  obtain ⟨vs, h1, h2⟩ := l.ex
  exact r.set ⟨p, vs, rfl, h1, h2, l.g, l.r, l.b⟩ (fun _ a _ e j ys h3 => by cases e; exact l.sl j ys h3)
/-- the list that slot i builds is changed -/
theorem Rl.bldWrite {i : Nat} {a : Addr} {xs xs' : List D} {vs' : List V} (r : Rl Γ B z m σ H) (h1 : m.e[i]? = some (.bld xs)) (h2 : σ[i]? = some (some (.ref a))) (q : RepL Γ z xs' vs') :
    Rl Γ B z ⟨m.e.set i (.bld xs'), m.S⟩ σ (upd H a (.lst vs')) := by
  obtain ⟨a', vs, e, k1, k2, k3, k4, k5⟩ := r.slot i _ _ h1 h2
  cases e
  have hl : i < m.e.length := (List.getElem?_eq_some_iff.mp h1).1
  refine ⟨⟨fun b o e => ?_, r.rf.slen, fun n ys b e1 e2 => ?_, r.rf.out, r.rf.rnd⟩, ⟨r.sn.ext, fun b o e hn hx => ?_, fun b o e => ?_, r.sn.gnew, r.sn.rnew⟩, by simp [r.len], fun j s w e1 e2 => ?_, fun j k us ws b hjk e1 e2 e3 e4 => ?_⟩
  · rw [upd_ne (fun q => by rw [q, k3] at e; cases e)]
    exact r.rf.sub b o e
  · obtain ⟨us, q1, q2⟩ := r.rf.sto n ys b e1 e2
    exact ⟨us, by rw [upd_ne (fun (q : b = a) => k4 (by rw [← q]; exact List.mem_of_getElem? e2))]; exact q1, q2⟩
  · rw [upd_ne (fun (q : b = a) => by
      rcases k5 with k | k
      · rw [q, k] at e; cases e
      · exact hx (by rw [q]; exact k))]
    exact r.sn.keep b o e hn hx
  · by_cases hb : b = a
    · subst hb; exact ⟨_, upd_same⟩
    · rw [upd_ne hb]; exact r.sn.live b o e
  · have e1 : (m.e.set i (.bld xs'))[j]? = some s := e1
    by_cases hj : i = j
    · subst hj
      rw [List.getElem?_set_self hl] at e1
      rw [h2] at e2
      cases e1; cases e2
      exact ⟨a, vs', rfl, upd_same, q, k3, k4, k5⟩
    · rw [List.getElem?_set_ne hj] at e1
      have t := r.slot j s w e1 e2
      cases s with
      | un => trivial
      | val d => exact t
      | bld ys =>
        obtain ⟨b, us, e, q1, q2, q3, q4, q5⟩ := t
        refine ⟨b, us, e, ?_, q2, q3, q4, q5⟩
        rw [upd_ne (fun eb => r.apart i j xs ys a hj h1 e1 h2 (by rw [e2, e, eb]))]
        exact q1
  · have e1 : (m.e.set i (.bld xs'))[j]? = some (.bld us) := e1
    have e2 : (m.e.set i (.bld xs'))[k]? = some (.bld ws) := e2
    have back : ∀ (t : Nat) (ys : List D), (m.e.set i (.bld xs'))[t]? = some (.bld ys) → ∃ ys', m.e[t]? = some (.bld ys') := fun t ys e => by
      by_cases ht : i = t
      · subst ht; exact ⟨xs, h1⟩
      · rw [List.getElem?_set_ne ht] at e; exact ⟨ys, e⟩
    obtain ⟨us', f1⟩ := back j us e1
    obtain ⟨ws', f2⟩ := back k ws e2
    exact r.apart j k us' ws' b hjk f1 f2 e3 e4
/-- slot i's list is frozen -/
theorem Rl.bldFreeze {i : Nat} {v : V} {xs : List D} (r : Rl Γ B z m σ H) (h1 : m.e[i]? = some (.bld xs)) (h2 : σ[i]? = some (some v)) :
    ∃ z', Ext z z' ∧ Rl Γ B z' ⟨m.e.set i (.val (.lst xs)), m.S⟩ σ H ∧ Rep Γ z' (.lst xs) v := by
  obtain ⟨a, vs, e, k1, k2, k3, k4, k5⟩ := r.slot i _ _ h1 h2
  cases e
  have hσ : σ.set i (some (.ref a)) = σ := by
    have hl := (List.getElem?_eq_some_iff.mp h2).1
    have he := (List.getElem?_eq_some_iff.mp h2).2
    rw [← he, List.set_getElem_self]
  have r1 : Rl Γ B z ⟨m.e.set i .un, m.S⟩ σ H := by
    have t := r.setUn (i := i) (w := some (.ref a))
    rw [hσ] at t
    exact t
  have l : Lim Γ B z ⟨m.e.set i .un, m.S⟩ σ H a xs := ⟨⟨vs, k1, k2⟩, k3, k4, k5, fun j ys e1 e2 => by
    have e1 : (m.e.set i .un)[j]? = some (.bld ys) := e1
    by_cases hj : i = j
    · subst hj
      rw [List.getElem?_set_self (List.getElem?_eq_some_iff.mp h1).1] at e1
      cases e1
    · rw [List.getElem?_set_ne hj] at e1
      exact r.apart i j xs ys a hj h1 e1 h2 e2⟩
  obtain ⟨z', x1, x2, x3⟩ := l.freeze r1
  refine ⟨z', x1, ?_, x3⟩
  have t := x2.setVal (i := i) x3
  rw [hσ] at t
  have e : (m.e.set i .un).set i (.val (.lst xs)) = m.e.set i (.val (.lst xs)) := List.set_set ..
  rw [show (⟨m.e.set i (.val (.lst xs)), m.S⟩ : M) = ⟨(m.e.set i .un).set i (.val (.lst xs)), m.S⟩ by rw [e]]
  exact t
/-- a cell is changed -/
theorem Rl.celWrite {n : Nat} {a : Addr} {xs : List D} {vs : List V} (r : Rl Γ B z m σ H) (h : z.r[n]? = some a) (q : RepL Γ z xs vs) : Rl Γ B z ⟨m.e, m.S.set n xs⟩ σ (upd H a (.lst vs)) := by
  have ha : a ∈ z.r := List.mem_of_getElem? h
  refine r.call ⟨fun b o e => ?_, by simp [r.rf.slen], fun k ys b e1 e2 => ?_, r.rf.out, r.rf.rnd⟩ ⟨Ext.refl z, fun b o e hn _ => ?_, fun b o e => ?_, fun _ _ e => .inl e, fun _ e => .inl e⟩
  · rw [upd_ne (fun q => by rw [q, r.rf.out a ha] at e; cases e)]
    exact r.rf.sub b o e
  · by_cases hk : n = k
    · subst hk
      have hl := (List.getElem?_eq_some_iff.mp e1).1
      simp at hl
      rw [List.getElem?_set_self hl] at e1
      rw [h] at e2
      cases e1; cases e2
      exact ⟨vs, upd_same, q⟩
    · rw [List.getElem?_set_ne hk] at e1
      obtain ⟨us, q1, q2⟩ := r.rf.sto k ys b e1 e2
      refine ⟨us, ?_, q2⟩
      rw [upd_ne (fun eb => hk ?_)]
      · exact q1
      · subst eb
        have h1 := List.getElem?_eq_some_iff.mp h
        have h2 := List.getElem?_eq_some_iff.mp e2
        exact nodupIx r.rf.rnd h e2
  · rw [upd_ne (fun (q : b = a) => hn (by rw [q]; exact ha))]; exact e
  · by_cases hb : b = a
    · subst hb; exact ⟨_, upd_same⟩
    · exact ⟨o, by rw [upd_ne hb]; exact e⟩
/-- the addresses of the lists that are being built -/
def blds : List Sl → L2.St → List Addr
  | .bld _ :: e, some (.ref a) :: σ => a :: blds e σ
  | _ :: e, _ :: σ => blds e σ
  | _, _ => []
theorem mem_blds : ∀ {e : List Sl} {σ : L2.St} {a : Addr}, a ∈ blds e σ ↔ ∃ (i : Nat) (xs : List D), e[i]? = some (Sl.bld xs) ∧ σ[i]? = some (some (V.ref a))
  | [], σ, a => by simp [blds]
  | s :: e, [], a => by
    constructor
    · intro h; cases s <;> simp [blds] at h
    · rintro ⟨i, xs, _, h⟩; simp at h
  | s :: e, w :: σ, a => by
    have ih := @mem_blds e σ a
    constructor
    · intro h
      have key : (∃ xs, s = .bld xs ∧ w = some (.ref a)) ∨ a ∈ blds e σ := by
        cases s with
        | un => exact .inr h
        | val d => exact .inr h
        | bld xs =>
          cases w with
          | none => exact .inr h
          | some v =>
            cases v with
            | ref b =>
              rcases List.mem_cons.mp h with q | q
              · exact .inl ⟨xs, rfl, by rw [q]⟩
              · exact .inr q
            | _ => exact .inr h
      rcases key with ⟨xs, rfl, rfl⟩ | h
      · exact ⟨0, xs, rfl, rfl⟩
      · obtain ⟨i, xs, h1, h2⟩ := ih.mp h
        exact ⟨i + 1, xs, by simpa using h1, by simpa using h2⟩
    · rintro ⟨i, xs, h1, h2⟩
      cases i with
      | zero =>
        simp at h1 h2
        subst h1; subst h2
        exact List.mem_cons_self
      | succ i =>
        have q := ih.mpr ⟨i, xs, by simpa using h1, by simpa using h2⟩
        cases s with
        | un => exact q
        | val d => exact q
        | bld ys =>
          cases w with
          | none => exact q
          | some v => cases v <;> first | exact q | exact List.mem_cons_of_mem _ q
/-- the entry moved up to here -/
def Bs.here (m : M) (z : Fz) (σ : L2.St) (H : Hp) : Bs := ⟨H, z, blds m.e σ⟩
theorem Rl.rebase (r : Rl Γ B z m σ H) : Rl Γ (Bs.here m z σ H) z m σ H where
  rf := r.rf
  sn := Sn.refl _ z H
  len := r.len
  slot := fun i s w h1 h2 => by
    have q := r.slot i s w h1 h2
    cases s with
    | un => trivial
    | val d => exact q
    | bld xs =>
      obtain ⟨a, vs, e, q1, q2, q3, q4, q5⟩ := q
      exact ⟨a, vs, e, q1, q2, q3, q4, .inr (mem_blds.mpr ⟨i, xs, h1, by rw [h2, e]⟩)⟩
  apart := r.apart
theorem blds_of (r : Rl Γ B z m σ H) : ∀ c ∈ blds m.e σ, B.H c = none ∨ c ∈ B.x := fun c hc => by
  obtain ⟨i, xs, h1, h2⟩ := mem_blds.mp hc
  obtain ⟨a, vs, e, q1, q2, q3, q4, q5⟩ := r.slot i _ _ h1 h2
  cases e
  exact q5
theorem Rl.unbase {m' : M} {σ' : L2.St} (r : Rl Γ B z m σ H) (r' : Rl Γ (Bs.here m z σ H) z' m' σ' H') : Rl Γ B z' m' σ' H' where
  rf := r'.rf
  sn := r.sn.trans r'.sn (blds_of r)
  len := r'.len
  slot := fun i s w h1 h2 => by
    have q := r'.slot i s w h1 h2
    cases s with
    | un => trivial
    | val d => exact q
    | bld xs =>
      obtain ⟨a, vs, e, q1, q2, q3, q4, q5⟩ := q
      refine ⟨a, vs, e, q1, q2, q3, q4, ?_⟩
      rcases q5 with q5 | q5
      · exact .inl (r.sn.back q5)
      · exact blds_of r a q5
  apart := r'.apart
/-- a list in limbo stands through it -/
theorem Lim.through {m' : M} {σ' : L2.St} {p : Addr} {xs : List D} (l : Lim Γ B z m σ H p xs) (r : Rl Γ B z m σ H) (r' : Rl Γ (Bs.here m z σ H) z' m' σ' H') : Lim Γ B z' m' σ' H' p xs := by
  obtain ⟨vs, h1, h2⟩ := l.ex
  have px : p ∉ blds m.e σ := fun h => by
    obtain ⟨i, ys, k1, k2⟩ := mem_blds.mp h
    exact l.sl i ys k1 k2
  refine ⟨⟨vs, r'.sn.keep p _ h1 l.r px, RepL.mono r'.sn.ext xs h2⟩, ?_, fun hm => ?_, l.b, fun i ys k1 k2 => ?_⟩
  · cases g : z'.G p with
    | none => rfl
    | some o =>
      rcases r'.sn.gnew p o g with h | h | h
      · have := l.g; rw [show z.G p = some o from h] at this; cases this
      · rw [show H p = none from h] at h1; cases h1
      · exact absurd h px
  · rcases r'.sn.rnew p hm with h | h | h
    · exact l.r h
    · rw [show H p = none from h] at h1; cases h1
    · exact px h
  · obtain ⟨a, us, e, _, _, _, _, q5⟩ := r'.slot i _ _ k1 k2
    cases e
    rcases q5 with q5 | q5
    · rw [show H p = none from q5] at h1; cases h1
    · exact px q5
end
end Z

set_option Elab.async false
set_option linter.all false
set_option maxRecDepth 100000
set_option maxHeartbeats 2000000
/-! Z2: readings of denotations; expressions -/
namespace Z
open PySem PySem.Spec PyProof.Rows L2

/-- how an answer stands in the world -/
abbrev RpT (α β : Type) := Fz → M → L2.St → Hp → α → β → Prop
section
variable (Γ : Gm) (B : Bs) (W : WX)
def Po {α β : Type} (rep : RpT α β) (σ : L2.St) (z : Fz) (r : R α) (Q : β → Hp → Prop) : Prop := match r with
  | .ok a m => ∀ z' b H', Ext z z' → Rl Γ B z' m σ H' → rep z' m σ H' a b → Q b H'
  | .exc c d m => ∀ z' dx u H', Ext z z' → Rl Γ B z' m σ H' → z'.G dx = some (.xd [(("value" : Str), u)]) → Rep Γ z' d u → W (.ref (Γ.cls c)) (some dx) σ H'
  | .bad => False
def tZ {α β : Type} (rep : RpT α β) (f : M → R α) : L2.St → Hp → (β → Hp → Prop) → Prop := fun σ H Q => ∃ m z, Rl Γ B z m σ H ∧ Po Γ B W rep σ z (f m) Q
abbrev rpE : RpT D V := fun z _ _ _ d v => Rep Γ z d v
abbrev rpA : RpT (List D) (List V) := fun z _ _ _ ds vs => RepL Γ z ds vs
abbrev rpB : RpT Bool Bool := fun _ _ _ _ a b => b = a
abbrev rpF : RpT (List D) V := fun z m σ H xs v => ∃ p, v = .ref p ∧ Lim Γ B z m σ H p xs
abbrev tE (f : Den) : TE := tZ Γ B W (rpE Γ) f
abbrev tA (f : DenL) : TA := tZ Γ B W (rpA Γ) f
abbrev tT (f : M → R Bool) : TT := tZ Γ B W rpB f
abbrev tF (f : DenL) : TE := tZ Γ B W (rpF Γ B) f
end

section
variable {Γ : Gm} {B : Bs} {W : WX} {X : Cx} {σ : L2.St} {H : Hp} {z z' : Fz} {m : M}
theorem Po.mono {α β : Type} {rep : RpT α β} {r : R α} {Q : β → Hp → Prop} (h : Po Γ B W rep σ z r Q) (e : Ext z z') : Po Γ B W rep σ z' r Q := by
  cases r with
  | ok a m => exact fun z1 b H1 e1 => h z1 b H1 (e.trans e1)
  | exc c d m => exact fun z1 dx u H1 e1 => h z1 dx u H1 (e.trans e1)
  | bad => exact h
/-- first f, then k -/
theorem bnd {α β α' β' : Type} {rep : RpT α β} {rep2 : RpT α' β'} {f : M → R α} {k : α → M → R α'} {Q : β' → Hp → Prop} {Q' : β → Hp → Prop} (r : Rl Γ B z m σ H) (h : Po Γ B W rep2 σ z ((f m).bind k) Q)
    (hq : ∀ z1 a m1 b H1, Ext z z1 → Rl Γ B z1 m1 σ H1 → rep z1 m1 σ H1 a b → Po Γ B W rep2 σ z1 (k a m1) Q → Q' b H1) : tZ Γ B W rep f σ H Q' := by
  refine ⟨m, z, r, ?_⟩
  cases e : f m with
  | ok a m1 =>
    rw [e] at h
    exact fun z1 b H1 e1 r1 q => hq z1 a m1 b H1 e1 r1 q (Po.mono h e1)
  | exc c d m1 =>
    rw [e] at h
    exact h
  | bad =>
    rw [e] at h
    exact h
theorem PE.imp {e : Expr} {t t' : TE} (h : PE X e t) (q : ∀ σ H Q, t' σ H Q → t σ H Q) : PE X e t' := ⟨fun pins s σ H Q I w => h.run pins s σ H Q I (q σ H Q w)⟩
theorem PA.imp {e : List Expr} {t t' : TA} (h : PA X e t) (q : ∀ σ H Q, t' σ H Q → t σ H Q) : PA X e t' := ⟨fun pos pins s σ H Q I w => h.run pos pins s σ H Q I (q σ H Q w)⟩
theorem PT.imp {e : Expr} {t t' : TT} (h : PT X e t) (q : ∀ σ H Q, t' σ H Q → t σ H Q) : PT X e t' := ⟨fun pins s σ H Q I w => h.run pins s σ H Q I (q σ H Q w)⟩
theorem PW.imp {e : Expr} {t t' : TT} (h : PW X e t) (q : ∀ σ H Q, t' σ H Q → t σ H Q) : PW X e t' := ⟨fun wh pins s σ H Q I w => h.run wh pins s σ H Q I (q σ H Q w)⟩

/-! ### constants, names -/
def zk (d : D) : Den := fun m => .ok d m
def zvar (i : Nat) : Den := fun m => match m.e[i]? with
  | some (.val d) => .ok d m
  | some (.bld xs) => .ok (.lst xs) ⟨m.e.set i (.val (.lst xs)), m.S⟩
  | _ => .bad
theorem z_int {i : Int} {j : Nat} {pos : Pos} : PE X (.Constant (.int i) j pos) (tE Γ B W (zk (.int i))) := PE.imp pe_int fun σ H Q ⟨m, z, r, h⟩ => h z (.int i) H (Ext.refl z) r (by simp only [Rep])
theorem z_str {x : Str} {j : Nat} {pos : Pos} : PE X (.Constant (.str x) j pos) (tE Γ B W (zk (.str x))) := PE.imp pe_str fun σ H Q ⟨m, z, r, h⟩ => h z (.str x) H (Ext.refl z) r (by simp only [Rep])
theorem z_bl {b : Bool} {j : Nat} {pos : Pos} : PE X (.Constant (.bool b) j pos) (tE Γ B W (zk (.bl b))) := PE.imp pe_bl fun σ H Q ⟨m, z, r, h⟩ => h z (.bl b) H (Ext.refl z) r (by simp only [Rep])
theorem z_non {j : Nat} {pos : Pos} : PE X (.Constant .none j pos) (tE Γ B W (zk .non)) := PE.imp pe_non fun σ H Q ⟨m, z, r, h⟩ => h z .non H (Ext.refl z) r (by simp only [Rep])
/-- a module's constant -/
theorem z_glob {x : Str} {d : D} {v : V} {u : Value} {pos : Pos} (hg : Gl X x) (hm : X.mg x = some u) (rv : RelV v u) (hd : ∀ z, Rep Γ z d v) (hdb : (x == ("__debug__" : Str)) = false) : PE X (.Name x pos) (tE Γ B W (zk d)) :=
  PE.imp (pe_glob hg hm rv hdb) fun σ H Q ⟨m, z, r, h⟩ => h z v H (Ext.refl z) r (hd z)
theorem z_var {i : Nat} {x : Str} {pos : Pos} (hN : X.N[i]? = some x) (hv : Vis X.env.scope x) (hd : (x == ("__debug__" : Str)) = false) (hcd : (x == ("__classdict__" : Str)) = false) : PE X (.Name x pos) (tE Γ B W (zvar i)) :=
  PE.imp (pe_var hN hv hd hcd) fun σ H Q ⟨m, z, r, h⟩ => by
    unfold zvar at h
    split at h
    · rename_i d e
      have hl : i < σ.length := by rw [← r.len]; exact (List.getElem?_eq_some_iff.mp e).1
      obtain ⟨v, ev, rp⟩ := r.slot i _ _ e (List.getElem?_eq_getElem hl)
      exact ⟨v, by rw [List.getElem?_eq_getElem hl, ev], h z v H (Ext.refl z) r rp⟩
    · rename_i xs e
      have hl : i < σ.length := by rw [← r.len]; exact (List.getElem?_eq_some_iff.mp e).1
      have e2 := List.getElem?_eq_getElem hl
      obtain ⟨a, vs, ev, _⟩ := r.slot i _ _ e e2
      rw [ev] at e2
      obtain ⟨z', x1, x2, x3⟩ := r.bldFreeze e e2
      exact ⟨.ref a, e2, h z' _ H x1 x2 x3⟩
    · exact h.elim

/-! ### operations by values -/
/-- r does what g says -/
def OpZ (Γ : Gm) (B : Bs) (r : R2) (g : D → D → Option D) : Prop := ∀ (z : Fz) (m : M) (σ : L2.St) (H : Hp) (d e c : D) (x y : V) (Q : VK), Rl Γ B z m σ H → Rep Γ z d x → Rep Γ z e y → g d e = some c →
  (∀ z' v H', Ext z z' → Rl Γ B z' m σ H' → Rep Γ z' c v → Q v H') → r x y H Q
def zop (g : D → D → Option D) (f h : Den) : Den := fun m => (f m).bind fun d m1 => (h m1).bind fun e m2 => ofO (g d e) m2
theorem op_conv {r : R2} {g : D → D → Option D} {f h : Den} (oz : OpZ Γ B r g) {Q : VK} (hz : tE Γ B W (zop g f h) σ H Q) : tOp r (tE Γ B W f) (tE Γ B W h) σ H Q := by
  obtain ⟨m, z, rl, h⟩ := hz
  refine bnd rl h fun z1 d m1 x H1 e1 r1 p1 h1 => bnd r1 h1 fun z2 e m2 y H2 e2 r2 p2 h2 => ?_
  cases q : g d e with
  | none => rw [q] at h2; exact h2.elim
  | some c =>
    rw [q] at h2
    exact oz z2 m2 σ H2 d e c x y Q r2 (Rep.mono e2 d p1) p2 q h2
variable {a b c : Expr} {f g h : Den} {pos : Pos}
theorem z_op {op : Operator} {r : R2} {k : D → D → Option D} (ho : OpR X (binaryOp op) r) (oz : OpZ Γ B r k) (ha : PE X a (tE Γ B W f)) (hb : PE X b (tE Γ B W g)) : PE X (.BinOp a op b pos) (tE Γ B W (zop k f g)) :=
  PE.imp (pe_op ho ha hb) fun _ _ _ hz => op_conv oz hz
theorem z_cmp {op : CmpOp} {r : R2} {k : D → D → Option D} (ho : OpR X (compareOp op) r) (oz : OpZ Γ B r k) (ha : PE X a (tE Γ B W f)) (hb : PE X b (tE Γ B W g)) (hn : behindInMarks op b = false) : PE X (.Compare a [op] [b] pos) (tE Γ B W (zop k f g)) :=
  PE.imp (pe_cmpR ho ha hb hn) fun _ _ _ hz => op_conv oz hz
/-- a value as a test: bools alone -/
def toB (f : Den) : M → R Bool := fun m => (f m).bind fun d m1 => match d with
  | .bl b => .ok b m1
  | _ => .bad
theorem toB_conv {Q : Bool → Hp → Prop} (hz : tT Γ B W (toB f) σ H Q) : tE Γ B W f σ H fun x H1 => ∃ c, x = .bl c ∧ Q c H1 := by
  obtain ⟨m, z, rl, h⟩ := hz
  refine bnd rl h fun z1 d m1 x H1 e1 r1 p1 h1 => ?_
  cases d with
  | bl b =>
    simp only [Rep] at p1
    exact ⟨b, p1, h1 z1 b H1 (Ext.refl _) r1 rfl⟩
  | _ => exact h1.elim
theorem z_test (ha : PE X a (tE Γ B W f)) (he : ∀ whole, isTrue a X.env whole = (do let v ← whole; standAt a.pos; holding [v] (truthy v))) : PT X a (tT Γ B W (toB f)) :=
  PT.imp (pt_val ha he) fun _ _ _ hz => toB_conv hz
theorem z_cmpT {op : CmpOp} {r : R2} {k : D → D → Option D} (ho : OpR X (compareOp op) r) (oz : OpZ Γ B r k) (ha : PE X a (tE Γ B W f)) (hb : PE X b (tE Γ B W g)) (hn : behindInMarks op b = false) : PT X (.Compare a [op] [b] pos) (tT Γ B W (toB (zop k f g))) := by
  refine PT.imp (pt_cmpR ho ha hb hn) fun σ H Q hz => ?_
  obtain ⟨m, z, rl, h⟩ := hz
  have h' : Po Γ B W rpB σ z ((f m).bind fun d m1 => ((g m1).bind fun e m2 => ofO (k d e) m2).bind fun d m1 => match d with
    | .bl b => .ok b m1
    | _ => .bad) Q := by
    have e : (toB (zop k f g) m) = ((f m).bind fun d m1 => ((g m1).bind fun e m2 => ofO (k d e) m2).bind fun d m1 => match d with
      | .bl b => .ok b m1
      | _ => .bad) := by
      unfold toB zop
      cases f m <;> rfl
    rw [← e]
    exact h
  refine bnd rl h' fun z1 d m1 x H1 e1 r1 p1 h1 => ?_
  have h1' : Po Γ B W rpB σ z1 ((g m1).bind fun e m2 => (ofO (k d e) m2).bind fun d m1 => match d with
    | .bl b => .ok b m1
    | _ => .bad) Q := by
    cases eg : g m1 with
    | ok => rw [eg] at h1; exact h1
    | exc => rw [eg] at h1; exact h1
    | bad => rw [eg] at h1; exact h1
  refine bnd r1 h1' fun z2 e m2 y H2 e2 r2 p2 h2 => ?_
  cases q : k d e with
  | none => rw [q] at h2; exact h2.elim
  | some c =>
    rw [q] at h2
    refine oz z2 m2 σ H2 d e c x y _ r2 (Rep.mono e2 d p1) p2 q fun z3 v H3 e3 r3 p3 => ?_
    cases c with
    | bl b =>
      simp only [Rep] at p3
      exact ⟨b, p3, h2 z3 b H3 e3 r3 rfl⟩
    | _ => exact h2.elim

/-! ### and, or, not, if -/
def zand (f g : Den) : Den := fun m => (f m).bind fun d m1 => match d with
  | .bl true => g m1
  | .bl false => .ok (.bl false) m1
  | _ => .bad
def zor (f g : Den) : Den := fun m => (f m).bind fun d m1 => match d with
  | .bl false => g m1
  | .bl true => .ok (.bl true) m1
  | _ => .bad
def znot (f : Den) : Den := fun m => (f m).bind fun d m1 => match d with
  | .bl b => .ok (.bl (!b)) m1
  | _ => .bad
def zite (c f g : Den) : Den := fun m => (toB c m).bind fun b m1 => if b = true then f m1 else g m1
variable {rest : List Expr}
theorem z_and (ha : PE X a (tE Γ B W f)) (hb : PE X (.BoolOp .And (b :: rest) pos) (tE Γ B W g)) : PE X (.BoolOp .And (a :: b :: rest) pos) (tE Γ B W (zand f g)) := by
  refine PE.imp (pe_and ha hb) fun σ H Q ⟨m, z, rl, h⟩ => ?_
  refine bnd rl h fun z1 d m1 x H1 e1 r1 p1 h1 => ?_
  cases d with
  | bl b =>
    simp only [Rep] at p1
    refine ⟨b, p1, ?_⟩
    cases b with
    | true => exact ⟨m1, z1, r1, h1⟩
    | false => exact h1 z1 (.bl false) H1 (Ext.refl _) r1 (by simp only [Rep])
  | _ => exact h1.elim
theorem z_or (ha : PE X a (tE Γ B W f)) (hb : PE X (.BoolOp .Or (b :: rest) pos) (tE Γ B W g)) : PE X (.BoolOp .Or (a :: b :: rest) pos) (tE Γ B W (zor f g)) := by
  refine PE.imp (pe_or ha hb) fun σ H Q ⟨m, z, rl, h⟩ => ?_
  refine bnd rl h fun z1 d m1 x H1 e1 r1 p1 h1 => ?_
  cases d with
  | bl b =>
    simp only [Rep] at p1
    refine ⟨b, p1, ?_⟩
    cases b with
    | false => exact ⟨m1, z1, r1, h1⟩
    | true => exact h1 z1 (.bl true) H1 (Ext.refl _) r1 (by simp only [Rep])
  | _ => exact h1.elim
theorem z_not (ha : PE X a (tE Γ B W f)) : PE X (.UnaryOp .Not a pos) (tE Γ B W (znot f)) := by
  refine PE.imp (pe_not ha) fun σ H Q ⟨m, z, rl, h⟩ => ?_
  refine bnd rl h fun z1 d m1 x H1 e1 r1 p1 h1 => ?_
  cases d with
  | bl b =>
    simp only [Rep] at p1
    exact ⟨b, p1, h1 z1 (.bl !b) H1 (Ext.refl _) r1 (by simp only [Rep])⟩
  | _ => exact h1.elim
theorem toB_and {m : M} : toB (zand f g) m = (toB f m).bind fun b m1 => if b = true then toB g m1 else .ok false m1 := by
  unfold toB zand
  cases f m with
  | ok d m1 =>
    cases d with
    | bl b => cases b <;> rfl
    | _ => rfl
  | _ => rfl
theorem toB_or {m : M} : toB (zor f g) m = (toB f m).bind fun b m1 => if b = true then .ok true m1 else toB g m1 := by
  unfold toB zor
  cases f m with
  | ok d m1 =>
    cases d with
    | bl b => cases b <;> rfl
    | _ => rfl
  | _ => rfl
theorem toB_not {m : M} : toB (znot f) m = (toB f m).bind fun b m1 => .ok (!b) m1 := by
  unfold toB znot
  cases f m with
  | ok d m1 =>
    cases d with
    | bl b => cases b <;> rfl
    | _ => rfl
  | _ => rfl
theorem w_and (ha : PT X a (tT Γ B W (toB f))) (hb : PW X (.BoolOp .And (b :: rest) pos) (tT Γ B W (toB g))) : PW X (.BoolOp .And (a :: b :: rest) pos) (tT Γ B W (toB (zand f g))) := by
  refine PW.imp (pw_and ha hb) fun σ H Q ⟨m, z, rl, h⟩ => ?_
  rw [toB_and] at h
  refine bnd rl h fun z1 d m1 x H1 e1 r1 p1 h1 => ?_
  subst p1
  cases x with
  | true => exact ⟨m1, z1, r1, h1⟩
  | false => exact h1 z1 false H1 (Ext.refl _) r1 rfl
theorem w_or (ha : PT X a (tT Γ B W (toB f))) (hb : PW X (.BoolOp .Or (b :: rest) pos) (tT Γ B W (toB g))) : PW X (.BoolOp .Or (a :: b :: rest) pos) (tT Γ B W (toB (zor f g))) := by
  refine PW.imp (pw_or ha hb) fun σ H Q ⟨m, z, rl, h⟩ => ?_
  rw [toB_or] at h
  refine bnd rl h fun z1 d m1 x H1 e1 r1 p1 h1 => ?_
  subst p1
  cases x with
  | false => exact ⟨m1, z1, r1, h1⟩
  | true => exact h1 z1 true H1 (Ext.refl _) r1 rfl
theorem z_notT (ha : PT X a (tT Γ B W (toB f))) : PT X (.UnaryOp .Not a pos) (tT Γ B W (toB (znot f))) := by
  refine PT.imp (pt_not ha) fun σ H Q ⟨m, z, rl, h⟩ => ?_
  rw [toB_not] at h
  refine bnd rl h fun z1 d m1 x H1 e1 r1 p1 h1 => ?_
  subst p1
  exact h1 z1 (!x) H1 (Ext.refl _) r1 rfl
theorem z_ite (hc : PT X c (tT Γ B W (toB h))) (ha : PE X a (tE Γ B W f)) (hb : PE X b (tE Γ B W g)) : PE X (.IfExp c a b pos) (tE Γ B W (zite h f g)) := by
  refine PE.imp (pe_ifExp hc ha hb) fun σ H Q ⟨m, z, rl, h⟩ => ?_
  refine bnd rl h fun z1 d m1 x H1 e1 r1 p1 h1 => ?_
  subst p1
  cases x with
  | true => exact ⟨m1, z1, r1, h1⟩
  | false => exact ⟨m1, z1, r1, h1⟩

/-! ### arguments, displays -/
def znil : DenL := fun m => .ok [] m
def zcons (f : Den) (g : DenL) : DenL := fun m => (f m).bind fun d m1 => (g m1).bind fun ds m2 => .ok (d :: ds) m2
variable {es : List Expr} {fs : DenL} {e : Expr}
theorem z_anil : PA X [] (tA Γ B W znil) := PA.imp pa_nil fun σ H Q ⟨m, z, r, h⟩ => h z [] H (Ext.refl _) r RepL.nil
theorem z_acons (ha : PE X e (tE Γ B W f)) (hr : PA X es (tA Γ B W fs)) (hs : starEach (e :: es) X.env = (false, eval e X.env) :: starEach es X.env) : PA X (e :: es) (tA Γ B W (zcons f fs)) := by
  refine PA.imp (pa_cons ha hr hs) fun σ H Q ⟨m, z, rl, h⟩ => ?_
  refine bnd rl h fun z1 d m1 x H1 e1 r1 p1 h1 => bnd r1 h1 fun z2 ds m2 xs H2 e2 r2 p2 h2 => ?_
  exact h2 z2 (x :: xs) H2 (Ext.refl _) r2 (.cons (Rep.mono e2 d p1) p2)
/-- sizes that stay small -/
def small (n : Nat) : Bool := decide (n ≤ 1000000)
theorem small_le {n : Nat} (h : small n = true) : n ≤ sizeLine := Nat.le_trans (of_decide_eq_true h) (by decide)
theorem small_lt {n : Nat} (h : small n = true) : n < sizeLine := Nat.lt_of_le_of_lt (of_decide_eq_true h) (by decide)
def ztup (fs : DenL) : Den := fun m => (fs m).bind fun ds m1 => if small ds.length = true then .ok (.tup ds) m1 else .bad
def zlstF (fs : DenL) : DenL := fun m => (fs m).bind fun ds m1 => if small ds.length = true then .ok ds m1 else .bad
/-- a new list, frozen at once -/
def frz (f : DenL) : Den := fun m => (f m).bind fun ds m1 => .ok (.lst ds) m1
/-- a new list that becomes a cell -/
def celD (f : DenL) : Den := fun m => (f m).bind fun ds m1 => .ok (.cel m1.S.length) ⟨m1.e, m1.S ++ [ds]⟩
theorem z_tup {x1 : Nat} (ha : PA X es (tA Γ B W fs)) : PE X (.Tuple es x1 pos) (tE Γ B W (ztup fs)) := by
  refine PE.imp (pe_tup ha) fun σ H Q ⟨m, z, rl, h⟩ => ?_
  refine bnd rl h fun z1 ds m1 xs H1 e1 r1 p1 h1 => ?_
  split at h1
  · rename_i hs
    refine ⟨by rw [← p1.length]; exact small_le hs, fun p hp => ?_⟩
    have r2 := r1.grow (o := .tup xs) hp
    have e2 : Ext z1 (z1.add p (.tup xs)) := ext_add (r1.rf.gnone hp)
    refine h1 _ _ _ e2 r2 ?_
    simp only [Rep]
    exact ⟨p, xs, rfl, SqT.of (show upd z1.G p (.tup xs) p = _ from upd_same), RepL.mono e2 ds p1⟩
  · exact h1.elim
theorem z_lstF (ha : PA X es (tA Γ B W fs)) : PE X (.List es pos) (tF Γ B W (zlstF fs)) := by
  refine PE.imp (pe_lst ha) fun σ H Q ⟨m, z, rl, h⟩ => ?_
  refine bnd rl h fun z1 ds m1 xs H1 e1 r1 p1 h1 => ?_
  split at h1
  · rename_i hs
    refine ⟨by rw [← p1.length]; exact small_le hs, fun p hp => ?_⟩
    obtain ⟨r2, l2⟩ := r1.limbo hp p1
    exact h1 z1 _ _ (Ext.refl _) r2 ⟨p, rfl, l2⟩
  · exact h1.elim
theorem z_frz {f : DenL} (h : PE X e (tF Γ B W f)) : PE X e (tE Γ B W (frz f)) := by
  refine PE.imp h fun σ H Q ⟨m, z, rl, h⟩ => ?_
  refine bnd rl h fun z1 ds m1 v H1 e1 r1 p1 h1 => ?_
  obtain ⟨p, rfl, l⟩ := p1
  obtain ⟨z2, x1, x2, x3⟩ := l.freeze r1
  exact h1 z2 _ H1 x1 x2 x3
theorem z_celD {f : DenL} (h : PE X e (tF Γ B W f)) : PE X e (tE Γ B W (celD f)) := by
  refine PE.imp h fun σ H Q ⟨m, z, rl, h⟩ => ?_
  refine bnd rl h fun z1 ds m1 v H1 e1 r1 p1 h1 => ?_
  obtain ⟨p, rfl, l⟩ := p1
  obtain ⟨z2, x1, x2, x3⟩ := l.cel r1
  exact h1 z2 _ H1 x1 x2 x3

/-! ### calls of builtins by values -/
def CallZ (Γ : Gm) (B : Bs) (r : List V → Hp → VK → Prop) (g : List D → Option D) : Prop := ∀ (z : Fz) (m : M) (σ : L2.St) (H : Hp) (ds : List D) (c : D) (xs : List V) (Q : VK), Rl Γ B z m σ H → RepL Γ z ds xs → g ds = some c →
  (∀ z' v H', Ext z z' → Rl Γ B z' m σ H' → Rep Γ z' c v → Q v H') → r xs H Q
def zcb (g : List D → Option D) (fs : DenL) : Den := fun m => (fs m).bind fun ds m1 => ofO (g ds) m1
theorem cb_conv {r : List V → Hp → VK → Prop} {g : List D → Option D} (oz : CallZ Γ B r g) {Q : VK} (hz : tE Γ B W (zcb g fs) σ H Q) : tCB r (tA Γ B W fs) σ H Q := by
  obtain ⟨m, z, rl, h⟩ := hz
  refine bnd rl h fun z1 ds m1 xs H1 e1 r1 p1 h1 => ?_
  cases q : g ds with
  | none => rw [q] at h1; exact h1.elim
  | some c =>
    rw [q] at h1
    exact oz z1 m1 σ H1 ds c xs Q r1 p1 q h1
end
end Z

set_option Elab.async false
set_option linter.all false
set_option maxRecDepth 100000
set_option maxHeartbeats 2000000
/-! Z3: operations by values -/
namespace Z
open PySem PySem.Spec PyProof.Rows L2

section
variable {Γ : Gm} {B : Bs} {W : WX} {X : Cx} {σ : L2.St} {H : Hp} {z z' : Fz} {m : M}

theorem Rep.int {i : Int} {v : V} : Rep Γ z (.int i) v ↔ v = .int i := by simp only [Rep]
theorem Rep.bl {i : Bool} {v : V} : Rep Γ z (.bl i) v ↔ v = .bl i := by simp only [Rep]
theorem Rep.str {i : Str} {v : V} : Rep Γ z (.str i) v ↔ v = .str i := by simp only [Rep]
theorem Rep.non {v : V} : Rep Γ z .non v ↔ v = .non := by simp only [Rep]
theorem Rep.lst {ds : List D} {v : V} : Rep Γ z (.lst ds) v ↔ ∃ a vs, v = .ref a ∧ z.G a = some (.lst vs) ∧ RepL Γ z ds vs := by simp only [Rep]
theorem Rep.tup {ds : List D} {v : V} : Rep Γ z (.tup ds) v ↔ ∃ a vs, v = .ref a ∧ SqT Γ.K z.G a vs ∧ RepL Γ z ds vs := by simp only [Rep]
theorem Rep.cel {n : Nat} {v : V} : Rep Γ z (.cel n) v ↔ ∃ a, v = .ref a ∧ z.r[n]? = some a := by simp only [Rep]
theorem Rep.scr {ns : List Int} {v : V} : Rep Γ z (.scr ns) v ↔ ∃ a, v = .ref a ∧ SqL Γ.K z.G a (ns.map V.int) := by simp only [Rep]
theorem Rl.sqT {ds : List V} {a : Addr} (r : Rl Γ B z m σ H) (h : SqT Γ.K z.G a ds) : SqT Γ.K H a ds := sqT_mono r.rf.sub h
theorem Rl.sqL {ds : List V} {a : Addr} (r : Rl Γ B z m σ H) (h : SqL Γ.K z.G a ds) : SqL Γ.K H a ds := sqL_mono r.rf.sub h

/-! ### + - * // % ** -/
theorem OpR.or {f : Value → Value → Sem Value} {r r' : R2} (h : OpR X f r) (h' : OpR X f r') : OpR X f (fun x y H Q => r x y H Q ∨ r' x y H Q) := by
  intro pins s σ H x y v u Q I rx ry q
  rcases q with q | q
  · exact h pins s σ H x y v u Q I rx ry q
  · exact h' pins s σ H x y v u Q I rx ry q
theorem CallR.or {f : Value} {r r' : List V → Hp → VK → Prop} (h : CallR X f r) (h' : CallR X f r') : CallR X f (fun x H Q => r x H Q ∨ r' x H Q) := by
  intro pins s σ H xs us Q I rx q
  rcases q with q | q
  · exact h pins s σ H xs us Q I rx q
  · exact h' pins s σ H xs us Q I rx q
def addD : D → D → Option D
  | .int a, .int b => some (.int (a + b))
  | .str a, .str b => if small (a.length + b.length) = true then some (.str (a ++ b)) else none
  | .tup a, .tup b => if small (a.length + b.length) = true then some (.tup (a ++ b)) else none
  | .lst a, .lst b => if small (a.length + b.length) = true then some (.lst (a ++ b)) else none
  | _, _ => none
abbrev rAddZ (K : PySem.W.Frag) : R2 := fun x y H Q => (rI0 (fun i j => .int (i + j)) x y H Q ∨ (∃ i j, x = .str i ∧ y = .str j ∧ i.length + j.length ≤ sizeLine ∧ Q (.str (i ++ j)) H)) ∨ (rCatA K x y H Q ∨ rCat x y H Q)
theorem op_addZ : OpR X (binaryOp .Add) (rAddZ X.K) := OpR.or (OpR.or op_add op_add_str) (OpR.or op_catA op_cat)
/-- a new frozen object and what it stands for -/
theorem Rl.newTup {ds : List D} {vs : List V} {p : Addr} (r : Rl Γ B z m σ H) (h : H p = none) (q : RepL Γ z ds vs) : Ext z (z.add p (.tup vs)) ∧ Rl Γ B (z.add p (.tup vs)) m σ (upd H p (.tup vs)) ∧ Rep Γ (z.add p (.tup vs)) (.tup ds) (.ref p) := by
  have e : Ext z (z.add p (.tup vs)) := ext_add (r.rf.gnone h)
  refine ⟨e, r.grow h, Rep.tup.mpr ⟨p, vs, rfl, SqT.of (show upd z.G p (.tup vs) p = _ from upd_same), RepL.mono e ds q⟩⟩
theorem Rl.newLst {ds : List D} {vs : List V} {p : Addr} (r : Rl Γ B z m σ H) (h : H p = none) (q : RepL Γ z ds vs) : Ext z (z.add p (.lst vs)) ∧ Rl Γ B (z.add p (.lst vs)) m σ (upd H p (.lst vs)) ∧ Rep Γ (z.add p (.lst vs)) (.lst ds) (.ref p) := by
  have e : Ext z (z.add p (.lst vs)) := ext_add (r.rf.gnone h)
  refine ⟨e, r.grow h, Rep.lst.mpr ⟨p, vs, rfl, show upd z.G p (.lst vs) p = _ from upd_same, RepL.mono e ds q⟩⟩
theorem RepL.nil_iff {ds : List D} {vs : List V} (h : RepL Γ z ds vs) : ds = [] ↔ vs = [] := by
  have e := h.length
  constructor
  · rintro rfl; exact List.eq_nil_of_length_eq_zero e.symm
  · rintro rfl; exact List.eq_nil_of_length_eq_zero e
theorem oz_add : OpZ Γ B (rAddZ Γ.K) addD := by
  intro z m σ H d e c x y Q rl rd re hc q
  unfold addD at hc
  split at hc
  · cases hc
    rw [Rep.int] at rd re
    exact .inl (.inl ⟨_, _, rd, re, q z _ H (Ext.refl _) rl (Rep.int.mpr rfl)⟩)
  · split at hc
    · rename_i hs
      cases hc
      rw [Rep.str] at rd re
      exact .inl (.inr ⟨_, _, rd, re, small_le hs, q z _ H (Ext.refl _) rl (Rep.str.mpr rfl)⟩)
    · cases hc
  · split at hc
    · rename_i hs
      cases hc
      obtain ⟨p, us, rfl, h1, h2⟩ := Rep.tup.mp rd
      obtain ⟨p', us', rfl, h3, h4⟩ := Rep.tup.mp re
      refine .inr (.inl ⟨p, p', us, us', rfl, rfl, rl.sqT h1, rl.sqT h3, by rw [← h2.length, ← h4.length]; exact small_le hs, fun e0 => ?_, fun _ e0 => ?_, fun _ _ t ht => ?_⟩)
      · refine q z _ H (Ext.refl _) rl ?_
        rw [h2.nil_iff.mpr e0]
        exact re
      · refine q z _ H (Ext.refl _) rl ?_
        rw [h4.nil_iff.mpr e0, List.append_nil]
        exact rd
      · obtain ⟨x1, x2, x3⟩ := rl.newTup ht (h2.append h4)
        exact q _ _ _ x1 x2 x3
    · cases hc
  · split at hc
    · rename_i hs
      cases hc
      obtain ⟨p, us, rfl, h1, h2⟩ := Rep.lst.mp rd
      obtain ⟨p', us', rfl, h3, h4⟩ := Rep.lst.mp re
      refine .inr (.inr ⟨p, p', us, us', rfl, rfl, rl.rf.sub _ _ h1, rl.rf.sub _ _ h3, by rw [← h2.length, ← h4.length]; exact small_le hs, fun t ht => ?_⟩)
      obtain ⟨x1, x2, x3⟩ := rl.newLst ht (h2.append h4)
      exact q _ _ _ x1 x2 x3
    · cases hc
  · cases hc
/-- ints to a value that is no object -/
theorem oz_int {C : Int → Int → Prop} {g : Int → Int → D} {g' : Int → Int → V} {k : D → D → Option D} (hk : ∀ d e c, k d e = some c → ∃ i j, d = .int i ∧ e = .int j ∧ C i j ∧ c = g i j) (hg : ∀ i j z, Rep Γ z (g i j) (g' i j)) : OpZ Γ B (rI C g') k := by
  intro z m σ H d e c x y Q rl rd re hc q
  obtain ⟨i, j, rfl, rfl, h1, rfl⟩ := hk d e c hc
  rw [Rep.int] at rd re
  exact ⟨i, j, rd, re, h1, q z _ H (Ext.refl _) rl (hg i j z)⟩
def subD : D → D → Option D
  | .int a, .int b => some (.int (a - b))
  | _, _ => none
theorem oz_sub : OpZ Γ B (rI0 fun i j => .int (i - j)) subD := by
  intro z m σ H d e c x y Q rl rd re hc q
  unfold subD at hc
  split at hc
  · cases hc
    rw [Rep.int] at rd re
    exact ⟨_, _, rd, re, q z _ H (Ext.refl _) rl (Rep.int.mpr rfl)⟩
  · cases hc
/-- * of ints; a list times an int -/
def mulD : D → D → Option D
  | .int a, .int b => if decide (a.natAbs.log2 + b.natAbs.log2 < 1000000) = true then some (.int (a * b)) else none
  | _, _ => none
theorem oz_mul : OpZ Γ B (rI CMulW fun i j => .int (i * j)) mulD := by
  refine oz_int (g := fun i j => .int (i * j)) (fun d e c hc => ?_) fun i j z => Rep.int.mpr rfl
  unfold mulD at hc
  split at hc
  · split at hc
    · rename_i hs
      cases hc
      have hs' := of_decide_eq_true hs
      exact ⟨_, _, rfl, rfl, hs', rfl⟩
    · cases hc
  · cases hc
def fdivD : D → D → Option D
  | .int a, .int b => if decide (b ≠ 0 ∧ b.natAbs.log2 < 9000) = true then some (.int (a.fdiv b)) else none
  | _, _ => none
def CDivZ (_ j : Int) : Prop := j ≠ 0 ∧ j.natAbs.log2 < 9000
theorem op_fdivZ : OpR X (binaryOp .FloorDiv) (rI CDivZ fun i j => .int (i.fdiv j)) := opI fun _ _ _ _ _ _ _ hc q => floordiv_int hc.1 q (.inl (PyProof.noPylong_of_log2 hc.2))
theorem oz_fdiv : OpZ Γ B (rI CDivZ fun i j => .int (i.fdiv j)) fdivD := by
  refine oz_int (g := fun i j => .int (i.fdiv j)) (fun d e c hc => ?_) fun i j z => Rep.int.mpr rfl
  unfold fdivD at hc
  split at hc
  · split at hc
    · rename_i hs
      cases hc
      have hs' := of_decide_eq_true hs
      exact ⟨_, _, rfl, rfl, hs', rfl⟩
    · cases hc
  · cases hc
def modD : D → D → Option D
  | .int a, .int b => if decide (b ≠ 0) = true then some (.int (a.fmod b)) else none
  | _, _ => none
theorem oz_mod : OpZ Γ B (rI (fun _ j => j ≠ 0) fun i j => .int (i.fmod j)) modD := by
  refine oz_int (g := fun i j => .int (i.fmod j)) (fun d e c hc => ?_) fun i j z => Rep.int.mpr rfl
  unfold modD at hc
  split at hc
  · split at hc
    · rename_i hs
      cases hc
      have hs' := of_decide_eq_true hs
      exact ⟨_, _, rfl, rfl, hs', rfl⟩
    · cases hc
  · cases hc
def powD : D → D → Option D
  | .int a, .int b => if decide (0 ≤ b ∧ (Builtin.Int.intBits a : Int) * b ≤ 2 ^ 27) = true then some (.int (a ^ b.toNat)) else none
  | _, _ => none
def CPowZ (i j : Int) : Prop := 0 ≤ j ∧ (Builtin.Int.intBits i : Int) * j ≤ 2 ^ 27
theorem op_powZ : OpR X (binaryOp .Pow) (rI CPowZ fun i j => .int (i ^ j.toNat)) := opI fun _ _ _ _ _ _ _ hc q => pow_int hc.1 hc.2 q
theorem oz_pow : OpZ Γ B (rI CPowZ fun i j => .int (i ^ j.toNat)) powD := by
  refine oz_int (g := fun i j => .int (i ^ j.toNat)) (fun d e c hc => ?_) fun i j z => Rep.int.mpr rfl
  unfold powD at hc
  split at hc
  · split at hc
    · rename_i hs
      cases hc
      have hs' := of_decide_eq_true hs
      exact ⟨_, _, rfl, rfl, hs', rfl⟩
    · cases hc
  · cases hc
/-! ### < <= > >= of ints -/
def cmpI (p : Int → Int → Bool) : D → D → Option D
  | .int a, .int b => some (.bl (p a b))
  | _, _ => none
theorem oz_cmpI {p : Int → Int → Bool} : OpZ Γ B (rI0 fun i j => .bl (p i j)) (cmpI p) := by
  intro z m σ H d e c x y Q rl rd re hc q
  unfold cmpI at hc
  split at hc
  · cases hc
    rw [Rep.int] at rd re
    exact ⟨_, _, rd, re, q z _ H (Ext.refl _) rl (Rep.bl.mpr rfl)⟩
  · cases hc
abbrev ltD := cmpI fun i j => decide (i < j)
abbrev leD := cmpI fun i j => decide (i ≤ j)
abbrev gtD := cmpI fun i j => decide (j < i)
abbrev geD := cmpI fun i j => decide (j ≤ i)
/-! ### is None -/
def isND : D → D → Option D
  | .non, .non => some (.bl true)
  | _, .non => some (.bl false)
  | _, _ => none
def isNotND : D → D → Option D
  | .non, .non => some (.bl false)
  | _, .non => some (.bl true)
  | _, _ => none
theorem Rep.not_non {d : D} {v : V} (h : Rep Γ z d v) (hd : d ≠ .non) : v ≠ .non := by
  rintro rfl
  cases d with
  | non => exact hd rfl
  | _ => simp [Rep] at h
theorem oz_isN : OpZ Γ B (fun x y H Q => y = .non ∧ Q (.bl (decide (x = .non))) H) isND := by
  intro z m σ H d e c x y Q rl rd re hc q
  unfold isND at hc
  split at hc
  · cases hc
    rw [Rep.non] at rd re
    subst rd
    exact ⟨re, by rw [decide_eq_true rfl]; exact q z _ H (Ext.refl _) rl (Rep.bl.mpr rfl)⟩
  · rename_i hd
    cases hc
    rw [Rep.non] at re
    refine ⟨re, ?_⟩
    rw [decide_eq_false (Rep.not_non rd hd)]
    exact q z _ H (Ext.refl _) rl (Rep.bl.mpr rfl)
  · cases hc
theorem oz_notN : OpZ Γ B (fun x y H Q => y = .non ∧ Q (.bl (!decide (x = .non))) H) isNotND := by
  intro z m σ H d e c x y Q rl rd re hc q
  unfold isNotND at hc
  split at hc
  · cases hc
    rw [Rep.non] at rd re
    subst rd
    exact ⟨re, by rw [decide_eq_true rfl]; exact q z _ H (Ext.refl _) rl (Rep.bl.mpr rfl)⟩
  · rename_i hd
    cases hc
    rw [Rep.non] at re
    refine ⟨re, ?_⟩
    rw [decide_eq_false (Rep.not_non rd hd)]
    exact q z _ H (Ext.refl _) rl (Rep.bl.mpr rfl)
  · cases hc

/-! ### data: == != in -/
mutual
def toP : D → Option PyData
  | .non => some .none
  | .bl b => some (.bool b)
  | .int i => some (.int i)
  | .str x => some (.str x)
  | .tup ds => (toPL ds).map .tuple
  | .lst ds => (toPL ds).map .list
  | _ => none
def toPL : List D → Option (List PyData)
  | [] => some []
  | d :: ds => (toP d).bind fun p => (toPL ds).map fun ps => p :: ps
end
mutual
def eqb : D → D → Bool
  | .non, .non => true
  | .bl a, .bl b => a == b
  | .bl a, .int j => (if a then 1 else 0) == j
  | .int i, .bl b => i == (if b then 1 else 0)
  | .int i, .int j => i == j
  | .str x, .str y => x == y
  | .tup xs, .tup ys => eqbL xs ys
  | .lst xs, .lst ys => eqbL xs ys
  | _, _ => false
def eqbL : List D → List D → Bool
  | [], [] => true
  | x :: xs, y :: ys => eqb x y && eqbL xs ys
  | _, _ => false
end
theorem toPL_len : ∀ {ds : List D} {ps : List PyData}, toPL ds = some ps → ds.length = ps.length
  | [], _, h => by simp [toPL] at h; subst h; rfl
  | d :: ds, _, h => by
    simp only [toPL, Option.bind_eq_some_iff, Option.map_eq_some_iff] at h
    obtain ⟨p, _, ps, h2, rfl⟩ := h
    simp [toPL_len h2]
mutual
theorem eqb_eqv : ∀ (d e : D) (p q : PyData), toP d = some p → toP e = some q → eqb d e = PyData.eqv p q
  | .tup xs, .tup ys, p, q, hp, hq => by
    simp only [toP, Option.map_eq_some_iff] at hp hq
    obtain ⟨ps, h1, rfl⟩ := hp
    obtain ⟨qs, h2, rfl⟩ := hq
    simp only [eqb, PyData.eqv]
    exact eqbL_eqv xs ys ps qs h1 h2
  | .lst xs, .lst ys, p, q, hp, hq => by
    simp only [toP, Option.map_eq_some_iff] at hp hq
    obtain ⟨ps, h1, rfl⟩ := hp
    obtain ⟨qs, h2, rfl⟩ := hq
    simp only [eqb, PyData.eqv]
    exact eqbL_eqv xs ys ps qs h1 h2
  | .non, e, p, q, hp, hq => by
    simp only [toP, Option.some.injEq] at hp; subst hp
    cases e <;> simp [toP] at hq <;> (try obtain ⟨_, _, hq⟩ := hq) <;> (try subst hq) <;> simp [eqb, PyData.eqv]
  | .bl _, e, p, q, hp, hq => by
    simp only [toP, Option.some.injEq] at hp; subst hp
    cases e <;> simp [toP] at hq <;> (try obtain ⟨_, _, hq⟩ := hq) <;> (try subst hq) <;> simp [eqb, PyData.eqv]
  | .int _, e, p, q, hp, hq => by
    simp only [toP, Option.some.injEq] at hp; subst hp
    cases e <;> simp [toP] at hq <;> (try obtain ⟨_, _, hq⟩ := hq) <;> (try subst hq) <;> simp [eqb, PyData.eqv]
  | .str _, e, p, q, hp, hq => by
    simp only [toP, Option.some.injEq] at hp; subst hp
    cases e <;> simp [toP] at hq <;> (try obtain ⟨_, _, hq⟩ := hq) <;> (try subst hq) <;> simp [eqb, PyData.eqv]
  | .tup xs, .non, p, q, hp, hq | .tup xs, .bl _, p, q, hp, hq | .tup xs, .int _, p, q, hp, hq | .tup xs, .str _, p, q, hp, hq | .tup xs, .lst _, p, q, hp, hq => by
    simp only [toP, Option.map_eq_some_iff] at hp
    obtain ⟨ps, h1, rfl⟩ := hp
    simp [toP] at hq
    first | (subst hq; simp [eqb, PyData.eqv]) | (obtain ⟨_, _, hq⟩ := hq; subst hq; simp [eqb, PyData.eqv])
  | .lst xs, .non, p, q, hp, hq | .lst xs, .bl _, p, q, hp, hq | .lst xs, .int _, p, q, hp, hq | .lst xs, .str _, p, q, hp, hq | .lst xs, .tup _, p, q, hp, hq => by
    simp only [toP, Option.map_eq_some_iff] at hp
    obtain ⟨ps, h1, rfl⟩ := hp
    simp [toP] at hq
    first | (subst hq; simp [eqb, PyData.eqv]) | (obtain ⟨_, _, hq⟩ := hq; subst hq; simp [eqb, PyData.eqv])
  | .tup _, .dct _ _, p, q, hp, hq | .tup _, .cel _, p, q, hp, hq | .tup _, .obj _ _, p, q, hp, hq | .tup _, .scr _, p, q, hp, hq => by simp [toP] at hq
  | .lst _, .dct _ _, p, q, hp, hq | .lst _, .cel _, p, q, hp, hq | .lst _, .obj _ _, p, q, hp, hq | .lst _, .scr _, p, q, hp, hq => by simp [toP] at hq
  | .dct _ _, _, p, q, hp, hq => by simp [toP] at hp
  | .cel _, _, p, q, hp, hq => by simp [toP] at hp
  | .obj _ _, _, p, q, hp, hq => by simp [toP] at hp
  | .scr _, _, p, q, hp, hq => by simp [toP] at hp
theorem eqbL_eqv : ∀ (ds es : List D) (ps qs : List PyData), toPL ds = some ps → toPL es = some qs → eqbL ds es = PyData.eqvAll ps qs
  | [], [], _, _, hp, hq => by simp [toPL] at hp hq; subst hp; subst hq; simp [eqbL, PyData.eqvAll]
  | [], e :: es, _, _, hp, hq => by
    simp only [toPL, Option.bind_eq_some_iff, Option.map_eq_some_iff] at hp hq
    obtain ⟨q, _, qs, _, rfl⟩ := hq
    simp at hp; subst hp; simp [eqbL, PyData.eqvAll]
  | d :: ds, [], _, _, hp, hq => by
    simp only [toPL, Option.bind_eq_some_iff, Option.map_eq_some_iff] at hp hq
    obtain ⟨p, _, ps, _, rfl⟩ := hp
    simp at hq; subst hq; simp [eqbL, PyData.eqvAll]
  | d :: ds, e :: es, _, _, hp, hq => by
    simp only [toPL, Option.bind_eq_some_iff, Option.map_eq_some_iff] at hp hq
    obtain ⟨p, h1, ps, h2, rfl⟩ := hp
    obtain ⟨q, h3, qs, h4, rfl⟩ := hq
    simp only [eqbL, PyData.eqvAll, eqb_eqv d e p q h1 h3, eqbL_eqv ds es ps qs h2 h4]
end
mutual
theorem Rep.dp (sub : ∀ a o, z.G a = some o → H a = some o) : ∀ (d : D) (p : PyData) (v : V), Rep Γ z d v → toP d = some p → Dp Γ.K H v p
  | .non, _, _, h, e => by simp only [toP, Option.some.injEq] at e; subst e; rw [Rep.non.mp h]; exact .non
  | .bl b, _, _, h, e => by simp only [toP, Option.some.injEq] at e; subst e; rw [Rep.bl.mp h]; exact .bl b
  | .int i, _, _, h, e => by simp only [toP, Option.some.injEq] at e; subst e; rw [Rep.int.mp h]; exact .int i
  | .str x, _, _, h, e => by simp only [toP, Option.some.injEq] at e; subst e; rw [Rep.str.mp h]; exact .str x
  | .tup ds, _, _, h, e => by
    simp only [toP, Option.map_eq_some_iff] at e
    obtain ⟨ps, e, rfl⟩ := e
    obtain ⟨a, vs, rfl, h1, h2⟩ := Rep.tup.mp h
    exact .tup (sqT_mono sub h1) (RepL.dp sub ds ps vs h2 e)
  | .lst ds, _, _, h, e => by
    simp only [toP, Option.map_eq_some_iff] at e
    obtain ⟨ps, e, rfl⟩ := e
    obtain ⟨a, vs, rfl, h1, h2⟩ := Rep.lst.mp h
    exact .lst (SqL.of (sub _ _ h1)) (RepL.dp sub ds ps vs h2 e)
  | .dct _ _, _, _, _, e => by simp [toP] at e
  | .cel _, _, _, _, e => by simp [toP] at e
  | .obj _ _, _, _, _, e => by simp [toP] at e
  | .scr _, _, _, _, e => by simp [toP] at e
theorem RepL.dp (sub : ∀ a o, z.G a = some o → H a = some o) : ∀ (ds : List D) (ps : List PyData) (vs : List V), RepL Γ z ds vs → toPL ds = some ps → DpAll Γ.K H vs ps
  | [], _, _, h, e => by simp only [toPL, Option.some.injEq] at e; subst e; simp only [RepL] at h; subst h; exact .nil
  | d :: ds, _, _, h, e => by
    simp only [toPL, Option.bind_eq_some_iff, Option.map_eq_some_iff] at e
    obtain ⟨p, e1, ps, e2, rfl⟩ := e
    simp only [RepL] at h
    obtain ⟨v, ws, rfl, h2, h3⟩ := h
    exact .cons (Rep.dp sub d p v h2 e1) (RepL.dp sub ds ps ws h3 e2)
end
/-- plain data, no deeper than 64 -/
def okD (d : D) : Bool := match toP d with
  | some p => SeqAt.shaped p
  | none => false
theorem okD_of {d : D} (h : okD d = true) : ∃ p, toP d = some p ∧ SeqAt.shaped p = true := by
  unfold okD at h
  split at h
  · rename_i p e; exact ⟨p, e, h⟩
  · cases h
def eqD : D → D → Option D
  | .str x, .str y => some (.bl (x == y))
  | d, e => if (okD d && okD e) = true then some (.bl (eqb d e)) else none
def neD : D → D → Option D
  | .str x, .str y => some (.bl (!(x == y)))
  | d, e => if (okD d && okD e) = true then some (.bl (!eqb d e)) else none
abbrev rEqZ (K : PySem.W.Frag) : R2 := fun x y H Q => rEq x y H Q ∨ rEqD K x y H Q
abbrev rNeZ (K : PySem.W.Frag) : R2 := fun x y H Q => rNe x y H Q ∨ rNeD K x y H Q
theorem op_eqZ (hu : X.A.units + 64 < cLine) : OpR X (compareOp .Eq) (rEqZ X.K) := OpR.or op_eq (op_eqD hu)
theorem op_neZ (hu : X.A.units + 64 < cLine) : OpR X (compareOp .NotEq) (rNeZ X.K) := OpR.or op_ne (op_neD hu)
theorem oz_eq : OpZ Γ B (rEqZ Γ.K) eqD := by
  intro z m σ H d e c x y Q rl rd re hc q
  unfold eqD at hc
  split at hc
  · cases hc
    rw [Rep.str] at rd re
    subst rd; subst re
    exact .inl ⟨rfl, by rw [dec_str]; exact q z _ H (Ext.refl _) rl (Rep.bl.mpr rfl)⟩
  · split at hc
    · rename_i hs
      cases hc
      rw [Bool.and_eq_true] at hs
      obtain ⟨p, h1, h2⟩ := okD_of hs.1
      obtain ⟨p', h3, h4⟩ := okD_of hs.2
      refine .inr ⟨p, p', Rep.dp rl.rf.sub d p x rd h1, Rep.dp rl.rf.sub e p' y re h3, h2, h4, ?_⟩
      rw [← eqb_eqv d e p p' h1 h3]
      exact q z _ H (Ext.refl _) rl (Rep.bl.mpr rfl)
    · cases hc
theorem oz_ne : OpZ Γ B (rNeZ Γ.K) neD := by
  intro z m σ H d e c x y Q rl rd re hc q
  unfold neD at hc
  split at hc
  · cases hc
    rw [Rep.str] at rd re
    subst rd; subst re
    exact .inl ⟨rfl, by rw [dec_str]; exact q z _ H (Ext.refl _) rl (Rep.bl.mpr rfl)⟩
  · split at hc
    · rename_i hs
      cases hc
      rw [Bool.and_eq_true] at hs
      obtain ⟨p, h1, h2⟩ := okD_of hs.1
      obtain ⟨p', h3, h4⟩ := okD_of hs.2
      refine .inr ⟨p, p', Rep.dp rl.rf.sub d p x rd h1, Rep.dp rl.rf.sub e p' y re h3, h2, h4, ?_⟩
      rw [← eqb_eqv d e p p' h1 h3]
      exact q z _ H (Ext.refl _) rl (Rep.bl.mpr rfl)
    · cases hc
/-! ### x[i], x[a:b] -/
theorem atI_rep {ds : List D} {vs : List V} {i : Int} {d : D} (h : RepL Γ z ds vs) (e : atI ds i = some d) : ∃ v, atI vs i = some v ∧ Rep Γ z d v := by
  unfold atI at e ⊢
  rw [h.length] at e
  cases k : ixN vs.length i with
  | none => rw [k] at e; cases e
  | some j =>
    rw [k] at e
    exact h.get e
def idxD : D → D → Option D
  | .tup xs, .int i => atI xs i
  | .lst xs, .int i => atI xs i
  | .scr ns, .int i => (atI ns i).map .int
  | .str s, .int i => if small s.length = true then (atI s.cps.toList i).map fun c => .str ⟨#[c]⟩ else none
  | _, _ => none
theorem atI_map {α β : Type} (f : α → β) (xs : List α) (i : Int) : atI (xs.map f) i = (atI xs i).map f := by
  unfold atI
  rw [List.length_map]
  cases ixN xs.length i with
  | none => rfl
  | some j => simp
theorem oz_idx : OpZ Γ B (rIx Γ.K) idxD := by
  intro z m σ H d e c x y Q rl rd re hc q
  unfold idxD at hc
  split at hc
  · obtain ⟨p, us, rfl, h1, h2⟩ := Rep.tup.mp rd
    obtain ⟨v, h3, h4⟩ := atI_rep h2 hc
    exact .inr (.inl ⟨p, us, _, v, rfl, Rep.int.mp re, rl.sqT h1, h3, q z v H (Ext.refl _) rl h4⟩)
  · obtain ⟨p, us, rfl, h1, h2⟩ := Rep.lst.mp rd
    obtain ⟨v, h3, h4⟩ := atI_rep h2 hc
    exact .inl ⟨p, us, _, v, rfl, Rep.int.mp re, SqL.of (rl.rf.sub _ _ h1), h3, q z v H (Ext.refl _) rl h4⟩
  · rename_i ns i
    obtain ⟨p, rfl, h1⟩ := Rep.scr.mp rd
    obtain ⟨n, h2, rfl⟩ := Option.map_eq_some_iff.mp hc
    exact .inl ⟨p, ns.map V.int, i, .int n, rfl, Rep.int.mp re, rl.sqL h1, by rw [atI_map, h2]; rfl, q z _ H (Ext.refl _) rl (Rep.int.mpr rfl)⟩
  · rename_i s i
    split at hc
    · rename_i hs
      obtain ⟨ch, h2, rfl⟩ := Option.map_eq_some_iff.mp hc
      exact .inr (.inr ⟨s, i, ch, Rep.str.mp rd, Rep.int.mp re, small_le hs, h2, q z _ H (Ext.refl _) rl (Rep.str.mpr rfl)⟩)
    · cases hc
  · cases hc
variable {a b : Expr} {f g : Den} {pos : Pos}
theorem z_idx (hK : X.K = Γ.K) (ha : PE X a (tE Γ B W f)) (hb : PE X b (tE Γ B W g)) (hs : PlainIx b) : PE X (.Subscript a b pos) (tE Γ B W (zop idxD f g)) :=
  PE.imp (pe_ix ix_seq ha hb hs) fun _ _ _ hz => op_conv (by rw [hK]; exact oz_idx) hz
/-! ### builtins -/
def negD : List D → Option D
  | [.int i] => some (.int (-i))
  | _ => none
def zneg (f : Den) : Den := fun m => (f m).bind fun d m1 => match d with
  | .int i => .ok (.int (-i)) m1
  | _ => .bad
theorem z_neg (ha : PE X a (tE Γ B W f)) : PE X (.UnaryOp .USub a pos) (tE Γ B W (zneg f)) := by
  refine PE.imp (pe_un un_neg ha) fun σ H Q ⟨m, z, rl, h⟩ => ?_
  refine bnd rl h fun z1 d m1 x H1 e1 r1 p1 h1 => ?_
  cases d with
  | int i => exact ⟨i, Rep.int.mp p1, h1 z1 _ H1 (Ext.refl _) r1 (Rep.int.mpr rfl)⟩
  | _ => exact h1.elim
def lenD : List D → Option D
  | [.tup xs] => some (.int xs.length)
  | [.lst xs] => some (.int xs.length)
  | [.scr xs] => some (.int xs.length)
  | [.str s] => if small s.length = true then some (.int s.length) else none
  | _ => none
abbrev rLenZ (K : PySem.W.Frag) : List V → Hp → VK → Prop := fun xs H Q => (∃ p ys, xs = [.ref p] ∧ (SqL K H p ys ∨ SqT K H p ys) ∧ Q (.int ys.length) H) ∨ (∃ z, xs = [.str z] ∧ z.length ≤ sizeLine ∧ Q (.int z.length) H)
theorem cr_lenZ : CallR X (.builtin "len") (rLenZ X.K) := CallR.or call_len_seq call_len_str
theorem cz_len : CallZ Γ B (rLenZ Γ.K) lenD := by
  intro z m σ H ds c xs Q rl rd hc q
  unfold lenD at hc
  split at hc
  · cases hc
    obtain ⟨v, rfl, h⟩ := rd.one
    obtain ⟨p, us, rfl, h1, h2⟩ := Rep.tup.mp h
    exact .inl ⟨p, us, rfl, .inr (rl.sqT h1), q z _ H (Ext.refl _) rl (Rep.int.mpr (by rw [h2.length]))⟩
  · cases hc
    obtain ⟨v, rfl, h⟩ := rd.one
    obtain ⟨p, us, rfl, h1, h2⟩ := Rep.lst.mp h
    exact .inl ⟨p, us, rfl, .inl (SqL.of (rl.rf.sub _ _ h1)), q z _ H (Ext.refl _) rl (Rep.int.mpr (by rw [h2.length]))⟩
  · cases hc
    obtain ⟨v, rfl, h⟩ := rd.one
    obtain ⟨p, rfl, h1⟩ := Rep.scr.mp h
    exact .inl ⟨p, _, rfl, .inl (rl.sqL h1), q z _ H (Ext.refl _) rl (Rep.int.mpr (by rw [List.length_map]))⟩
  · split at hc
    · rename_i hs
      cases hc
      obtain ⟨v, rfl, h⟩ := rd.one
      exact .inr ⟨_, by rw [Rep.str.mp h], small_le hs, q z _ H (Ext.refl _) rl (Rep.int.mpr rfl)⟩
    · cases hc
  · cases hc
def absD : List D → Option D
  | [.int i] => some (.int (if i < 0 then -i else i))
  | _ => none
theorem cz_abs : CallZ Γ B (fun xs H Q => ∃ i, xs = [.int i] ∧ Q (.int (if i < 0 then -i else i)) H) absD := by
  intro z m σ H ds c xs Q rl rd hc q
  unfold absD at hc
  split at hc
  · cases hc
    obtain ⟨v, rfl, h⟩ := rd.one
    exact ⟨_, by rw [Rep.int.mp h], q z _ H (Ext.refl _) rl (Rep.int.mpr rfl)⟩
  · cases hc
def intD : List D → Option D
  | [.int i] => some (.int i)
  | [.bl k] => some (.int (if k then 1 else 0))
  | _ => none
theorem cz_int : CallZ Γ B (fun xs H Q => (∃ i, xs = [.int i] ∧ Q (.int i) H) ∨ ∃ k, xs = [.bl k] ∧ Q (.int (if k then 1 else 0)) H) intD := by
  intro z m σ H ds c xs Q rl rd hc q
  unfold intD at hc
  split at hc
  · cases hc
    obtain ⟨v, rfl, h⟩ := rd.one
    exact .inl ⟨_, by rw [Rep.int.mp h], q z _ H (Ext.refl _) rl (Rep.int.mpr rfl)⟩
  · cases hc
    obtain ⟨v, rfl, h⟩ := rd.one
    exact .inr ⟨_, by rw [Rep.bl.mp h], q z _ H (Ext.refl _) rl (Rep.int.mpr rfl)⟩
  · cases hc
def maxD : List D → Option D
  | [.int i, .int j] => some (.int (if j > i then j else i))
  | _ => none
theorem cz_max : CallZ Γ B (fun xs H Q => ∃ i j, xs = [.int i, .int j] ∧ Q (.int (if j > i then j else i)) H) maxD := by
  intro z m σ H ds c xs Q rl rd hc q
  unfold maxD at hc
  split at hc
  · cases hc
    obtain ⟨v, u, rfl, h, h'⟩ := rd.two
    exact ⟨_, _, by rw [Rep.int.mp h, Rep.int.mp h'], q z _ H (Ext.refl _) rl (Rep.int.mpr rfl)⟩
  · cases hc
def minD : List D → Option D
  | [.int i, .int j] => some (.int (if j < i then j else i))
  | _ => none
theorem cz_min : CallZ Γ B (fun xs H Q => ∃ i j, xs = [.int i, .int j] ∧ Q (.int (if j < i then j else i)) H) minD := by
  intro z m σ H ds c xs Q rl rd hc q
  unfold minD at hc
  split at hc
  · cases hc
    obtain ⟨v, u, rfl, h, h'⟩ := rd.two
    exact ⟨_, _, by rw [Rep.int.mp h, Rep.int.mp h'], q z _ H (Ext.refl _) rl (Rep.int.mpr rfl)⟩
  · cases hc
def tupleD : List D → Option D
  | [.tup xs] => some (.tup xs)
  | [.lst xs] => some (.tup xs)
  | _ => none
abbrev rTupleZ (K : PySem.W.Frag) : List V → Hp → VK → Prop := fun xs H Q => ∃ p ys, xs = [.ref p] ∧ ((SqL K H p ys ∧ ∀ l, H l = none → Q (.ref l) (upd H l (.tup ys))) ∨ (SqT K H p ys ∧ Q (.ref p) H))
theorem cz_tuple : CallZ Γ B (rTupleZ Γ.K) tupleD := by
  intro z m σ H ds c xs Q rl rd hc q
  unfold tupleD at hc
  split at hc
  · cases hc
    obtain ⟨v, rfl, h⟩ := rd.one
    obtain ⟨p, us, rfl, h1, h2⟩ := Rep.tup.mp h
    exact ⟨p, us, rfl, .inr ⟨rl.sqT h1, q z _ H (Ext.refl _) rl h⟩⟩
  · cases hc
    obtain ⟨v, rfl, h⟩ := rd.one
    obtain ⟨p, us, rfl, h1, h2⟩ := Rep.lst.mp h
    refine ⟨p, us, rfl, .inl ⟨SqL.of (rl.rf.sub _ _ h1), fun t ht => ?_⟩⟩
    obtain ⟨x1, x2, x3⟩ := rl.newTup ht h2
    exact q _ _ _ x1 x2 x3
  · cases hc
/-- the bools of a list -/
def boolsD : List D → Option (List Bool)
  | [] => some []
  | .bl b :: ds => (boolsD ds).map fun bs => b :: bs
  | _ :: _ => none
theorem bools_rep : ∀ {ds : List D} {vs : List V} {bs : List Bool}, RepL Γ z ds vs → boolsD ds = some bs → vs = bs.map V.bl
  | [], _, _, h, e => by simp only [boolsD, Option.some.injEq] at e; subst e; simp only [RepL] at h; subst h; rfl
  | .bl b :: ds, _, _, h, e => by
    simp only [boolsD, Option.map_eq_some_iff] at e
    obtain ⟨bs, e, rfl⟩ := e
    simp only [RepL] at h
    obtain ⟨v, ws, rfl, h2, h3⟩ := h
    rw [Rep.bl.mp h2, bools_rep h3 e]; rfl
  | .non :: _, _, _, _, e => by simp [boolsD] at e
  | .int _ :: _, _, _, _, e => by simp [boolsD] at e
  | .str _ :: _, _, _, _, e => by simp [boolsD] at e
  | .tup _ :: _, _, _, _, e => by simp [boolsD] at e
  | .lst _ :: _, _, _, _, e => by simp [boolsD] at e
  | .dct _ _ :: _, _, _, _, e => by simp [boolsD] at e
  | .cel _ :: _, _, _, _, e => by simp [boolsD] at e
  | .obj _ _ :: _, _, _, _, e => by simp [boolsD] at e
  | .scr _ :: _, _, _, _, e => by simp [boolsD] at e
def allD : List D → Option D
  | [.lst xs] => (boolsD xs).map fun bs => .bl (bs.all id)
  | _ => none
def anyD : List D → Option D
  | [.lst xs] => (boolsD xs).map fun bs => .bl (bs.any id)
  | _ => none
theorem cz_all : CallZ Γ B (rAll Γ.K) allD := by
  intro z m σ H ds c xs Q rl rd hc q
  unfold allD at hc
  split at hc
  · obtain ⟨bs, hb, rfl⟩ := Option.map_eq_some_iff.mp hc
    obtain ⟨v, rfl, h⟩ := rd.one
    obtain ⟨p, us, rfl, h1, h2⟩ := Rep.lst.mp h
    have e := bools_rep h2 hb
    subst e
    exact ⟨p, bs, rfl, SqL.of (rl.rf.sub _ _ h1), q z _ H (Ext.refl _) rl (Rep.bl.mpr rfl)⟩
  · cases hc
theorem cz_any : CallZ Γ B (rAny Γ.K) anyD := by
  intro z m σ H ds c xs Q rl rd hc q
  unfold anyD at hc
  split at hc
  · obtain ⟨bs, hb, rfl⟩ := Option.map_eq_some_iff.mp hc
    obtain ⟨v, rfl, h⟩ := rd.one
    obtain ⟨p, us, rfl, h1, h2⟩ := Rep.lst.mp h
    have e := bools_rep h2 hb
    subst e
    exact ⟨p, bs, rfl, SqL.of (rl.rf.sub _ _ h1), q z _ H (Ext.refl _) rl (Rep.bl.mpr rfl)⟩
  · cases hc
end
end Z

set_option Elab.async false
set_option linter.all false
set_option maxRecDepth 100000
set_option maxHeartbeats 2000000
/-! Z4: statements, loops, comprehensions -/
namespace Z
open PySem PySem.Spec PyProof.Rows L2 RZ

inductive RS where
  | nx (m : M) | rt (d : D) (m : M) | bk (m : M) | ct (m : M) | exc (c : Nat) (d : D) (m : M) | bad
def R.thenS {α : Type} (r : R α) (k : α → M → RS) : RS := match r with
  | .ok a m => k a m
  | .exc c d m => .exc c d m
  | .bad => .bad
abbrev DenS := M → RS
section
variable (Γ : Gm) (B : Bs) (W : WX)
def PoS (E : Ends) (z : Fz) (r : RS) : Prop := match r with
  | .nx m => ∀ z' σ' H', Ext z z' → Rl Γ B z' m σ' H' → E.nx σ' H'
  | .rt d m => ∀ z' v σ' H', Ext z z' → Rl Γ B z' m σ' H' → Rep Γ z' d v → E.rt v H'
  | .bk m => ∀ z' σ' H', Ext z z' → Rl Γ B z' m σ' H' → E.bk σ' H'
  | .ct m => ∀ z' σ' H', Ext z z' → Rl Γ B z' m σ' H' → E.ct σ' H'
  | .exc c d m => ∀ z' dx u σ' H', Ext z z' → Rl Γ B z' m σ' H' → z'.G dx = some (.xd [(("value" : Str), u)]) → Rep Γ z' d u → W (.ref (Γ.cls c)) (some dx) σ' H'
  | .bad => False
def tS (f : DenS) : TS := fun E σ H => ∃ m z, Rl Γ B z m σ H ∧ PoS Γ B W E z (f m)
/-- slots that are not in own stand -/
def Only (own : List Nat) (σ σ' : L2.St) : Prop := σ'.length = σ.length ∧ ∀ j : Nat, j ∉ own → σ'[j]? = σ[j]?
abbrev Tg := D → M → Option M
abbrev Tgs := List D → M → Option M
def tG (own : List Nat) (g : Tg) : TG := fun v σ H Q => ∃ m z d m', Rl Γ B z m σ H ∧ Rep Γ z d v ∧ g d m = some m' ∧ ∀ z' σ' H', Ext z z' → Rl Γ B z' m' σ' H' → Only own σ σ' → Q σ' H'
def tGs (own : List Nat) (g : Tgs) : TGs := fun vs σ H Q => ∃ m z ds m', Rl Γ B z m σ H ∧ RepL Γ z ds vs ∧ g ds m = some m' ∧ ∀ z' σ' H', Ext z z' → Rl Γ B z' m' σ' H' → Only own σ σ' → Q σ' H'
end
/-- what a loop walks: these data, whatever is laid besides -/
structure Wk (Γ : Gm) (z : Fz) (J : It) (ds : List D) : Prop where
  go : ∀ (i : Nat) (H : Hp), i < ds.length → (∀ a o, z.G a = some o → H a = some o) → J.go i H
  stop : ∀ (H : Hp), (∀ a o, z.G a = some o → H a = some o) → J.stop ds.length H
  yld : ∀ (i : Nat) (H : Hp) (x : V) (H' : Hp), i < ds.length → (∀ a o, z.G a = some o → H a = some o) → J.yld i H x H' → ∃ d, ds[i]? = some d ∧
    ((H' = H ∧ Rep Γ z d x) ∨ ∃ T es vs, H T = none ∧ H' = upd H T (.tup vs) ∧ x = .ref T ∧ d = .tup es ∧ RepL Γ z es vs)
abbrev rpW (Γ : Gm) : RpT (List D) It := fun z _ _ _ ds J => Wk Γ z J ds
abbrev tI (Γ : Gm) (B : Bs) (W : WX) (f : DenL) : TI := tZ Γ B W (rpW Γ) f

section
variable {Γ : Gm} {B : Bs} {W : WX} {X : Cx} {σ : L2.St} {H : Hp} {z z' : Fz} {m : M}
theorem PoS.mono {E : Ends} {r : RS} (h : PoS Γ B W E z r) (e : Ext z z') : PoS Γ B W E z' r := by
  cases r with
  | nx m => exact fun z1 σ1 H1 e1 => h z1 σ1 H1 (e.trans e1)
  | rt d m => exact fun z1 v σ1 H1 e1 => h z1 v σ1 H1 (e.trans e1)
  | bk m => exact fun z1 σ1 H1 e1 => h z1 σ1 H1 (e.trans e1)
  | ct m => exact fun z1 σ1 H1 e1 => h z1 σ1 H1 (e.trans e1)
  | exc c d m => exact fun z1 dx u σ1 H1 e1 => h z1 dx u σ1 H1 (e.trans e1)
  | bad => exact h
theorem bndS {α β : Type} {rep : RpT α β} {f : M → R α} {k : α → M → RS} {E : Ends} {Q' : β → Hp → Prop} (r : Rl Γ B z m σ H) (h : PoS Γ B W E z ((f m).thenS k))
    (hq : ∀ z1 a m1 b H1, Ext z z1 → Rl Γ B z1 m1 σ H1 → rep z1 m1 σ H1 a b → PoS Γ B W E z1 (k a m1) → Q' b H1) : tZ Γ B W rep f σ H Q' := by
  refine ⟨m, z, r, ?_⟩
  cases e : f m with
  | ok a m1 =>
    rw [e] at h
    exact fun z1 b H1 e1 r1 q => hq z1 a m1 b H1 e1 r1 q (PoS.mono h e1)
  | exc c d m1 =>
    rw [e] at h
    exact fun z1 dx u H1 e1 r1 => h z1 dx u σ H1 e1 r1
  | bad =>
    rw [e] at h
    exact h
theorem PS.imp {e : Stmt} {t t' : TS} (h : PS X e t) (q : ∀ E σ H, t' E σ H → t E σ H) : PS X e t' := ⟨fun pins s σ H E I w => h.run pins s σ H E I (q E σ H w)⟩
theorem PSs.imp {e : List Stmt} {t t' : TS} (h : PSs X e t) (q : ∀ E σ H, t' E σ H → t E σ H) : PSs X e t' := ⟨fun pins s σ H E I w => h.run pins s σ H E I (q E σ H w)⟩
theorem PG.imp {e : Expr} {t t' : TG} (h : PG X e t) (q : ∀ v σ H Q, t' v σ H Q → t v σ H Q) : PG X e t' := ⟨fun pins s σ H v u Q I r w => h.run pins s σ H v u Q I r (q v σ H Q w)⟩
theorem PGs.imp {e : List Expr} {t t' : TGs} (h : PGs X e t) (q : ∀ v σ H Q, t' v σ H Q → t v σ H Q) : PGs X e t' := ⟨fun pins s σ H v u Q I r w => h.run pins s σ H v u Q I r (q v σ H Q w)⟩
theorem PI.imp {tg e : Expr} {t t' : TI} (h : PI X tg e t) (q : ∀ σ H Q, t' σ H Q → t σ H Q) : PI X tg e t' := ⟨fun pins s σ H Q I w => h.run pins s σ H Q I (q σ H Q w)⟩
theorem PI.or {tg e : Expr} {t t' : TI} (h : PI X tg e t) (h' : PI X tg e t') : PI X tg e (fun σ H Q => t σ H Q ∨ t' σ H Q) := ⟨fun pins s σ H Q I w => w.elim (h.run pins s σ H Q I) (h'.run pins s σ H Q I)⟩
theorem PE.or {e : Expr} {t t' : TE} (h : PE X e t) (h' : PE X e t') : PE X e (fun σ H Q => t σ H Q ∨ t' σ H Q) := ⟨fun pins s σ H Q I w => w.elim (h.run pins s σ H Q I) (h'.run pins s σ H Q I)⟩

/-! ### blocks, return, if, while -/
def znext : DenS := fun m => .nx m
def zseq (f g : DenS) : DenS := fun m => match f m with
  | .nx m1 => g m1
  | r => r
variable {st : Stmt} {rest : List Stmt} {f g : DenS} {a c : Expr} {k h : Den} {pos : Pos}
theorem z_nil : PSs X [] (tS Γ B W znext) := PSs.imp pss_nil fun E σ H ⟨m, z, rl, h⟩ => h z σ H (Ext.refl _) rl
theorem seq_conv {E : Ends} (h : PoS Γ B W E z (zseq f g m)) : PoS Γ B W { E with nx := tS Γ B W g E } z (f m) := by
  unfold zseq at h
  cases e : f m with
  | nx m1 => rw [e] at h; exact fun z1 σ1 H1 e1 r1 => ⟨m1, z1, r1, PoS.mono h e1⟩
  | rt d m1 => rw [e] at h; exact h
  | bk m1 => rw [e] at h; exact h
  | ct m1 => rw [e] at h; exact h
  | exc c d m1 => rw [e] at h; exact h
  | bad => rw [e] at h; exact h
theorem z_seq (h1 : PS X st (tS Γ B W f)) (h2 : PSs X rest (tS Γ B W g)) : PSs X (st :: rest) (tS Γ B W (zseq f g)) :=
  PSs.imp (pss_cons h1 h2) fun E σ H ⟨m, z, rl, h⟩ => ⟨m, z, rl, seq_conv h⟩
def zret (k : Den) : DenS := fun m => (k m).thenS fun d m1 => .rt d m1
def zpass : DenS := fun m => .nx m
theorem z_ret (ha : PE X a (tE Γ B W k)) : PS X (.Return (some a) pos) (tS Γ B W (zret k)) := by
  refine PS.imp (ps_ret ha) fun E σ H ⟨m, z, rl, h⟩ => ?_
  exact bndS rl h fun z1 d m1 x H1 e1 r1 p1 h1 => h1 z1 x σ H1 (Ext.refl _) r1 p1
theorem z_retN : PS X (.Return none pos) (tS Γ B W (zret (zk .non))) := PS.imp ps_retN fun E σ H ⟨m, z, rl, h⟩ => h z .non σ H (Ext.refl _) rl (Rep.non.mpr rfl)
theorem z_pass : PS X (.Pass pos) (tS Γ B W zpass) := PS.imp ps_pass fun E σ H ⟨m, z, rl, h⟩ => h z σ H (Ext.refl _) rl
def zif (c : Den) (f g : DenS) : DenS := fun m => (toB c m).thenS fun b m1 => if b = true then f m1 else g m1
theorem z_if {as bs : List Stmt} (hc : PT X c (tT Γ B W (toB h))) (ha : PSs X as (tS Γ B W f)) (hb : PSs X bs (tS Γ B W g)) : PS X (.If c as bs pos) (tS Γ B W (zif h f g)) := by
  refine PS.imp (ps_if hc ha hb) fun E σ H ⟨m, z, rl, h⟩ => ?_
  refine bndS rl h fun z1 d m1 x H1 e1 r1 p1 h1 => ?_
  subst p1
  cases x with
  | true => exact ⟨m1, z1, r1, h1⟩
  | false => exact ⟨m1, z1, r1, h1⟩
def zexpr (k : Den) : DenS := fun m => (k m).thenS fun _ m1 => .nx m1
theorem z_expr (ha : PE X a (tE Γ B W k)) (hs : swapsWith a none pos.line X.env = pure false) : PS X (.Expr a pos) (tS Γ B W (zexpr k)) := by
  refine PS.imp (ps_expr ha hs) fun E σ H ⟨m, z, rl, h⟩ => ?_
  exact bndS rl h fun z1 d m1 x H1 e1 r1 p1 h1 => h1 z1 σ H1 (Ext.refl _) r1
/-- at most n turns -/
def whileL (c : Den) (f : DenS) : Nat → DenS
  | 0, _ => .bad
  | n + 1, m => (toB c m).thenS fun b m1 => if b = true then (match f m1 with
      | .nx m2 => whileL c f n m2
      | .ct m2 => whileL c f n m2
      | .bk m2 => .nx m2
      | r => r) else .nx m1
theorem z_while {body : List Stmt} (n : Nat) (hp : PassesOwn (model X.prog X.w) X.A X.env X.xe) (hc : PT X c (tT Γ B W (toB h))) (hb : PSs X body (tS Γ B W f)) : PS X (.While c body [] pos) (tS Γ B W (whileL h f n)) := by
  refine PS.imp (ps_while hp hc hb) fun E σ H ⟨m, z, rl, hh⟩ => ?_
  refine ⟨fun k σ H => ∃ m z, Rl Γ B z m σ H ∧ PoS Γ B W E z (whileL h f k m), ⟨n, m, z, rl, hh⟩, ?_⟩
  rintro k σ H ⟨m, z, rl, hh⟩
  cases k with
  | zero => exact hh.elim
  | succ k =>
    refine bndS rl hh fun z1 d m1 x H1 e1 r1 p1 h1 => ?_
    subst p1
    cases x with
    | false => exact h1 z1 σ H1 (Ext.refl _) r1
    | true =>
      refine ⟨fun σ' H' => ∃ m z, Rl Γ B z m σ' H' ∧ PoS Γ B W E z (whileL h f k m), fun σ' H' q => ⟨k, Nat.lt_succ_self _, q⟩, m1, z1, r1, ?_⟩
      have h1' : PoS Γ B W E z1 (match f m1 with
        | .nx m2 => whileL h f k m2
        | .ct m2 => whileL h f k m2
        | .bk m2 => .nx m2
        | r => r) := h1
      cases e : f m1 with
      | nx m2 => rw [e] at h1'; exact fun z2 σ2 H2 e2 r2 => ⟨m2, z2, r2, PoS.mono h1' e2⟩
      | ct m2 => rw [e] at h1'; exact fun z2 σ2 H2 e2 r2 => ⟨m2, z2, r2, PoS.mono h1' e2⟩
      | bk m2 => rw [e] at h1'; exact h1'
      | rt d m2 => rw [e] at h1'; exact h1'
      | exc c d m2 => rw [e] at h1'; exact h1'
      | bad => rw [e] at h1'; exact h1'

/-! ### targets -/
def gset (i : Nat) : Tg := fun d m => some ⟨m.e.set i (.val d), m.S⟩
def gnil : Tgs := fun ds m => match ds with
  | [] => some m
  | _ => none
def gcons (g : Tg) (gs : Tgs) : Tgs := fun ds m => match ds with
  | d :: r => (g d m).bind fun m1 => gs r m1
  | [] => none
def gtup (n : Nat) (gs : Tgs) : Tg := fun d m => match d with
  | .tup ds => if ds.length = n then gs ds m else none
  | _ => none
theorem Only.refl (own : List Nat) (σ : L2.St) : Only own σ σ := ⟨rfl, fun _ _ => rfl⟩
theorem Only.trans {own own' : List Nat} {σ σ1 σ2 : L2.St} (a : Only own σ σ1) (b : Only own' σ1 σ2) : Only (own ++ own') σ σ2 :=
  ⟨b.1.trans a.1, fun j hj => (b.2 j (fun h => hj (List.mem_append_right _ h))).trans (a.2 j (fun h => hj (List.mem_append_left _ h)))⟩
theorem Only.set (σ : L2.St) (i : Nat) (w : Option V) : Only [i] σ (σ.set i w) := ⟨by simp, fun j hj => List.getElem?_set_ne (fun e => hj (by rw [e]; exact List.mem_singleton.mpr rfl))⟩
theorem z_gname {i : Nat} {x : Str} (hN : X.N.Nodup) (hi : X.N[i]? = some x) (hx : Loc X.env.scope x) (hf : X.fn x = true ∨ X.env.scope.names.lookup x = some .local) : PG X (.Name x pos) (tG Γ B [i] (gset i)) := by
  refine PG.imp (pg_name hN hi hx hf) fun v σ H Q ⟨m, z, d, m', rl, rp, e, q⟩ => ?_
  have e' : (⟨m.e.set i (.val d), m.S⟩ : M) = m' := Option.some.inj e
  subst e'
  exact q z _ H (Ext.refl _) (rl.setVal rp) (Only.set σ i _)
theorem z_gnil : PGs X [] (tGs Γ B [] gnil) := by
  refine PGs.imp pgs_nil fun vs σ H Q ⟨m, z, ds, m', rl, rp, e, q⟩ => ?_
  unfold gnil at e
  split at e
  · cases e
    simp only [RepL] at rp
    exact ⟨rp, q z σ H (Ext.refl _) rl (Only.refl _ _)⟩
  · cases e
theorem z_gcons {e : Expr} {es : List Expr} {own owns : List Nat} {t : Tg} {ts : Tgs} (h1 : PG X e (tG Γ B own t)) (h2 : PGs X es (tGs Γ B owns ts))
    (hs : (assignEach (e :: es) X.env).map (·.2) = assign e X.env :: (assignEach es X.env).map (·.2)) : PGs X (e :: es) (tGs Γ B (own ++ owns) (gcons t ts)) := by
  refine PGs.imp (pgs_cons h1 h2 hs) fun vs σ H Q ⟨m, z, ds, m', rl, rp, e, q⟩ => ?_
  unfold gcons at e
  split at e
  · rename_i d r
    simp only [RepL] at rp
    obtain ⟨v, ws, rfl, p1, p2⟩ := rp
    obtain ⟨m1, e1, e2⟩ := Option.bind_eq_some_iff.mp e
    refine ⟨v, ws, rfl, m, z, d, m1, rl, p1, e1, fun z1 σ1 H1 x1 r1 o1 => ?_⟩
    exact ⟨m1, z1, r, m', r1, RepL.mono x1 r p2, e2, fun z2 σ2 H2 x2 r2 o2 => q z2 σ2 H2 (x1.trans x2) r2 (o1.trans o2)⟩
  · cases e
theorem z_gtup {es : List Expr} {k : Nat} {own : List Nat} {ts : Tgs} {n : Nat} (hK : X.K = Γ.K) (hc : X.calm = true) (h : PGs X es (tGs Γ B own ts)) (hn : (assignEach es X.env).length = n) (hst : (assignEach es X.env).findIdx? (·.1) = none) :
    PG X (.Tuple es k pos) (tG Γ B own (gtup n ts)) := by
  refine PG.imp (pg_tup hc h hn hst) fun v σ H Q ⟨m, z, d, m', rl, rp, e, q⟩ => ?_
  unfold gtup at e
  split at e
  · split at e
    · rename_i hl
      obtain ⟨p, us, rfl, h1, h2⟩ := Rep.tup.mp rp
      exact ⟨p, us, rfl, by rw [hK]; exact rl.sqT h1, by rw [← h2.length]; exact hl, m, z, _, m', rl, h2, e, q⟩
    · cases e
  · cases e
def zasg (k : Den) (g : Tg) : DenS := fun m => (k m).thenS fun d m1 => match g d m1 with
  | some m2 => .nx m2
  | none => .bad
theorem asg_conv {own : List Nat} {t : Tg} {E : Ends} (hz : tS Γ B W (zasg k t) E σ H) : tAsg (tE Γ B W k) (tG Γ B own t) E σ H := by
  obtain ⟨m, z, rl, h⟩ := hz
  refine bndS rl h fun z1 d m1 x H1 e1 r1 p1 h1 => ?_
  cases e : t d m1 with
  | none => rw [e] at h1; exact h1.elim
  | some m2 =>
    rw [e] at h1
    exact ⟨m1, z1, d, m2, r1, p1, e, fun z2 σ2 H2 x2 r2 _ => h1 z2 σ2 H2 x2 r2⟩
theorem z_asg {tg : Expr} {own : List Nat} {t : Tg} (he : PE X a (tE Γ B W k)) (hg : PG X tg (tG Γ B own t)) (hs : swapsWithSole [tg] a pos.line X.env = pure false) (hw : swappedStores [tg] a X.env = pure none)
    (h1 : (assignEach [tg] X.env).map (·.2) = [assign tg X.env]) : PS X (.Assign [tg] a pos) (tS Γ B W (zasg k t)) := PS.imp (ps_asg he hg hs hw h1) fun E σ H hz => asg_conv hz
theorem z_set {i : Nat} {x : Str} {pos' : Pos} (hN : X.N.Nodup) (hi : X.N[i]? = some x) (hx : Loc X.env.scope x) (he : PE X a (tE Γ B W k)) (hs : swapsWith a (some (.Name x pos')) pos.line X.env = pure false) (hf : X.fn x = true ∨ X.env.scope.names.lookup x = some .local) :
    PS X (.Assign [.Name x pos'] a pos) (tS Γ B W (zasg k (gset i))) := by
  refine PS.imp (ps_set hN hi hx he hs hf) fun E σ H ⟨m, z, rl, h⟩ => ?_
  exact bndS rl h fun z1 d m1 x H1 e1 r1 p1 h1 => h1 z1 _ H1 (Ext.refl _) (r1.setVal p1)
/-- a new list, built from now on by slot i -/
def zsetB (i : Nat) (k : DenL) : DenS := fun m => (k m).thenS fun xs m1 => .nx ⟨m1.e.set i (.bld xs), m1.S⟩
theorem z_setB {i : Nat} {x : Str} {pos' : Pos} {k : DenL} (hN : X.N.Nodup) (hi : X.N[i]? = some x) (hx : Loc X.env.scope x) (he : PE X a (tF Γ B W k)) (hs : swapsWith a (some (.Name x pos')) pos.line X.env = pure false) (hf : X.fn x = true ∨ X.env.scope.names.lookup x = some .local) :
    PS X (.Assign [.Name x pos'] a pos) (tS Γ B W (zsetB i k)) := by
  refine PS.imp (ps_set hN hi hx he hs hf) fun E σ H ⟨m, z, rl, h⟩ => ?_
  refine bndS rl h fun z1 d m1 x H1 e1 r1 p1 h1 => ?_
  obtain ⟨p, rfl, l⟩ := p1
  exact h1 z1 _ H1 (Ext.refl _) (l.setBld r1)

/-! ### for -/
def forL (g : Tg) (body : DenS) : List D → DenS
  | [], m => .nx m
  | d :: ds, m => match g d m with
    | none => .bad
    | some m1 => match body m1 with
      | .nx m2 => forL g body ds m2
      | .ct m2 => forL g body ds m2
      | .bk m2 => .nx m2
      | r => r
def zfor (src : DenL) (g : Tg) (body : DenS) : DenS := fun m => (src m).thenS fun ds m1 => forL g body ds m1
theorem drop_cons {α : Type} {l : List α} {i : Nat} {d : α} (h : l[i]? = some d) : l.drop i = d :: l.drop (i + 1) := by
  have hl := (List.getElem?_eq_some_iff.mp h).1
  rw [List.drop_eq_getElem_cons hl, (List.getElem?_eq_some_iff.mp h).2]
theorem z_for {tg iter : Expr} {body : List Stmt} {src : DenL} {own : List Nat} {t : Tg} (hp : PassesOwn (model X.prog X.w) X.A X.env X.xe) (hc : X.calm = true) (hi : PI X tg iter (tI Γ B W src)) (hg : PG X tg (tG Γ B own t)) (hb : PSs X body (tS Γ B W f))
    (hs : ∀ x, foldedSetIterable iter X.env x = pure x) : PS X (.For tg iter body [] pos) (tS Γ B W (zfor src t f)) := by
  refine PS.imp (ps_for hp hc hi hg hb hs) fun E σ H ⟨m, z, rl, h⟩ => ?_
  refine bndS rl h fun z1 ds m1 J H1 e1 r1 wk h1 => ?_
  refine ⟨fun i n σ H => n = ds.length - i ∧ i ≤ ds.length ∧ ∃ m z, Ext z1 z ∧ Rl Γ B z m σ H ∧ PoS Γ B W E z (forL t f (ds.drop i) m), ⟨ds.length, rfl, Nat.zero_le _, m1, z1, Ext.refl _, r1, h1⟩, ?_⟩
  rintro i n σ H ⟨rfl, hi, m, z, ez, rl, h⟩
  have sub : ∀ a o, z1.G a = some o → H a = some o := fun a o q => rl.rf.sub a o (ez.g a o q)
  by_cases hlt : i < ds.length
  · refine .inr ⟨wk.go i H hlt sub, fun σ H => i + 1 ≤ ds.length ∧ ∃ m z, Ext z1 z ∧ Rl Γ B z m σ H ∧ PoS Γ B W E z (forL t f (ds.drop (i + 1)) m), fun σ' H' q => ⟨ds.length - (i + 1), by omega, rfl, q.1, q.2⟩, fun x H' y => ?_⟩
    obtain ⟨d, hd, q⟩ := wk.yld i H x H' hlt sub y
    rw [drop_cons hd] at h
    obtain ⟨z2, ez2, rl2, rp⟩ : ∃ z2, Ext z z2 ∧ Rl Γ B z2 m σ H' ∧ Rep Γ z2 d x := by
      rcases q with ⟨rfl, rp⟩ | ⟨T, es, vs, hT, rfl, rfl, rfl, rp⟩
      · exact ⟨z, Ext.refl _, rl, Rep.mono ez d rp⟩
      · obtain ⟨x1, x2, x3⟩ := rl.newTup hT (RepL.mono ez es rp)
        exact ⟨_, x1, x2, x3⟩
    unfold forL at h
    cases e : t d m with
    | none => rw [e] at h; exact h.elim
    | some m2 =>
      rw [e] at h
      refine ⟨m, z2, d, m2, rl2, rp, e, fun z3 σ3 H3 x3 r3 _ => ⟨m2, z3, r3, ?_⟩⟩
      have up : Ext z z3 := ez2.trans x3
      have h' : PoS Γ B W E z (match f m2 with
        | .nx m2 => forL t f (ds.drop (i + 1)) m2
        | .ct m2 => forL t f (ds.drop (i + 1)) m2
        | .bk m2 => .nx m2
        | r => r) := h
      cases e2 : f m2 with
      | nx m3 => rw [e2] at h'; exact fun z4 σ4 H4 x4 r4 => ⟨by omega, m3, z4, ez.trans (up.trans x4), r4, PoS.mono h' (up.trans x4)⟩
      | ct m3 => rw [e2] at h'; exact fun z4 σ4 H4 x4 r4 => ⟨by omega, m3, z4, ez.trans (up.trans x4), r4, PoS.mono h' (up.trans x4)⟩
      | bk m3 => rw [e2] at h'; exact PoS.mono (r := .nx m3) h' up
      | rt d m3 => rw [e2] at h'; exact PoS.mono (r := .rt d m3) h' up
      | exc c d m3 => rw [e2] at h'; exact PoS.mono (r := .exc c d m3) h' up
      | bad => rw [e2] at h'; exact h'
  · have e : i = ds.length := by omega
    subst e
    rw [List.drop_length] at h
    exact .inl ⟨wk.stop H sub, h z σ H (Ext.refl _) rl⟩

/-! ### what is walked -/
def seqD : D → Option (List D)
  | .tup xs => some xs
  | .lst xs => some xs
  | _ => none
def zseqI (k : Den) : DenL := fun m => (k m).bind fun d m1 => ofO (seqD d) m1
theorem wk_list {ds : List D} {vs : List V} {p : Addr} (h1 : z.G p = some (.lst vs)) (h2 : RepL Γ z ds vs) : Wk Γ z (Itl Γ.K p) ds := by
  have w : Walk (Itl Γ.K p) vs.length (fun H => SqL Γ.K H p vs) (YAt vs) := walk_list
  have el := h2.length
  refine ⟨fun i H hi sub => w.goes i H (by omega) (SqL.of (sub _ _ h1)), fun H sub => by rw [el]; exact w.stops H (SqL.of (sub _ _ h1)), fun i H x H' hi sub y => ?_⟩
  obtain ⟨rfl, hx⟩ := w.yields i H x H' (by omega) (SqL.of (sub _ _ h1)) y
  obtain ⟨v, hv, rp⟩ := h2.get (List.getElem?_eq_getElem hi)
  rw [hv] at hx
  cases hx
  exact ⟨_, List.getElem?_eq_getElem hi, .inl ⟨rfl, rp⟩⟩
theorem wk_tup {ds : List D} {vs : List V} {p : Addr} (h1 : SqT Γ.K z.G p vs) (h2 : RepL Γ z ds vs) : Wk Γ z (Itt Γ.K p) ds := by
  have w : Walk (Itt Γ.K p) vs.length (fun H => SqT Γ.K H p vs) (YAt vs) := walk_tup
  have el := h2.length
  refine ⟨fun i H hi sub => w.goes i H (by omega) (sqT_mono sub h1), fun H sub => by rw [el]; exact w.stops H (sqT_mono sub h1), fun i H x H' hi sub y => ?_⟩
  obtain ⟨rfl, hx⟩ := w.yields i H x H' (by omega) (sqT_mono sub h1) y
  obtain ⟨v, hv, rp⟩ := h2.get (List.getElem?_eq_getElem hi)
  rw [hv] at hx
  cases hx
  exact ⟨_, List.getElem?_eq_getElem hi, .inl ⟨rfl, rp⟩⟩
theorem i_seq {tg : Expr} (hK : X.K = Γ.K) (ha : PE X a (tE Γ B W k)) : PI X tg a (tI Γ B W (zseqI k)) := by
  refine PI.imp (PI.or (pi_list ha) (pi_tup ha)) fun σ H R ⟨m, z, rl, h⟩ => ?_
  cases e : k m with
  | ok d m1 =>
    have h' : Po Γ B W (rpW Γ) σ z (ofO (seqD d) m1) R := by
      have q : zseqI k m = ofO (seqD d) m1 := by unfold zseqI; rw [e]; rfl
      rw [q] at h; exact h
    cases d with
    | lst ds =>
      refine .inl ⟨m, z, rl, ?_⟩
      rw [e]
      intro z1 v H1 e1 r1 p1
      obtain ⟨p, us, rfl, h1, h2⟩ := Rep.lst.mp p1
      exact ⟨p, rfl, ⟨us, SqL.of (r1.rf.sub _ _ h1)⟩, h' z1 _ H1 e1 r1 (by rw [hK]; exact wk_list h1 h2)⟩
    | tup ds =>
      refine .inr ⟨m, z, rl, ?_⟩
      rw [e]
      intro z1 v H1 e1 r1 p1
      obtain ⟨p, us, rfl, h1, h2⟩ := Rep.tup.mp p1
      exact ⟨p, rfl, ⟨us, by rw [hK]; exact r1.sqT h1⟩, h' z1 _ H1 e1 r1 (by rw [hK]; exact wk_tup h1 h2)⟩
    | _ => exact h'.elim
  | exc c d m1 =>
    refine .inl ⟨m, z, rl, ?_⟩
    have q : zseqI k m = .exc c d m1 := by unfold zseqI; rw [e]; rfl
    rw [q] at h; rw [e]; exact h
  | bad =>
    have q : zseqI k m = .bad := by unfold zseqI; rw [e]; rfl
    rw [q] at h; exact h.elim
def rangeD (n : Int) : List D := (List.range n.toNat).map fun i => D.int (i : Nat)
def range2D (a b : Int) : List D := (List.range (b - a).toNat).map fun i => D.int (a + (i : Nat))
def rangeS : List D → Option (List D)
  | [.int n] => if decide (n.natAbs < 1000000) = true then some (rangeD n) else none
  | _ => none
def zrange (k : DenL) : DenL := fun m => (k m).bind fun ds m1 => ofO (rangeS ds) m1
theorem wk_range {lo : Int} {n : Nat} : Wk Γ z (Itr lo n) ((List.range n).map fun i => D.int (lo + (i : Nat))) := by
  have w : Walk (Itr lo n) n (fun _ => True) (YFn fun i => .int (lo + i)) := walk_range
  have el : ((List.range n).map fun i => D.int (lo + (i : Nat))).length = n := by simp
  refine ⟨fun i H hi _ => w.goes i H (by omega) trivial, fun H _ => by rw [el]; exact w.stops H trivial, fun i H x H' hi _ y => ?_⟩
  obtain ⟨rfl, rfl⟩ := w.yields i H x H' (by omega) trivial y
  exact ⟨.int (lo + (i : Nat)), by rw [List.getElem?_map, List.getElem?_range (by omega)]; rfl, .inl ⟨rfl, Rep.int.mpr rfl⟩⟩
theorem i_range {tg e : Expr} {p : Pos} {k : DenL} (hg : Gl X "range") (hm : X.mg "range" = none) (ha : PA X [e] (tA Γ B W k)) (hs : starEach [e] X.env = [(false, eval e X.env)]) : PI X tg (.Call (.Name "range" p) [e] [] pos) (tI Γ B W (zrange k)) := by
  refine PI.imp (pi_range1 hg hm ha hs) fun σ H R ⟨m, z, rl, h⟩ => ?_
  refine bnd rl h fun z1 ds m1 xs H1 e1 r1 p1 h1 => ?_
  cases q0 : rangeS ds with
  | none => rw [q0] at h1; exact h1.elim
  | some rs =>
    rw [q0] at h1
    unfold rangeS at q0
    split at q0
    · rename_i n
      split at q0
      · rename_i hs
        cases q0
        have hs := of_decide_eq_true hs
        obtain ⟨v, rfl, q⟩ := p1.one
        refine ⟨n, by rw [Rep.int.mp q], by omega, by omega, h1 z1 _ H1 (Ext.refl _) r1 ?_⟩
        have w := wk_range (Γ := Γ) (z := z1) (lo := 0) (n := n.toNat)
        have e : ((List.range n.toNat).map fun i => D.int (0 + (i : Nat))) = rangeD n := by
          unfold rangeD
          congr 1
          funext i
          simp
        rw [e] at w
        exact w
      · cases q0
    · cases q0
/-- pairs of two lists, of two tuples -/
def zipD : D → D → Option (List D)
  | .tup xs, .tup ys => some (List.zipWith (fun x y => D.tup [x, y]) xs ys)
  | .lst xs, .lst ys => some (List.zipWith (fun x y => D.tup [x, y]) xs ys)
  | _, _ => none
def zipS : List D → Option (List D)
  | [d, e] => zipD d e
  | _ => none
def zzip (k : DenL) : DenL := fun m => (k m).bind fun ds m1 => ofO (zipS ds) m1
theorem zipW_get {xs ys : List D} {i : Nat} {x y : D} (h1 : xs[i]? = some x) (h2 : ys[i]? = some y) : (List.zipWith (fun x y => D.tup [x, y]) xs ys)[i]? = some (D.tup [x, y]) := by
  rw [List.getElem?_zipWith, h1, h2]
theorem wk_zipL {ds es : List D} {us vs : List V} {p q : Addr} (h1 : z.G p = some (.lst us)) (h2 : RepL Γ z ds us) (h3 : z.G q = some (.lst vs)) (h4 : RepL Γ z es vs) : Wk Γ z (Itz Γ.K p q) (List.zipWith (fun x y => D.tup [x, y]) ds es) := by
  have w := walk_zip (K := Γ.K) (a := p) (b := q) (xs := us) (ys := vs) rfl
  have e1 := h2.length
  have e2 := h4.length
  have el : (List.zipWith (fun x y => D.tup [x, y]) ds es).length = min us.length vs.length := by rw [List.length_zipWith, e1, e2]
  refine ⟨fun i H hi sub => w.goes i H (by omega) ⟨SqL.of (sub _ _ h1), SqL.of (sub _ _ h3)⟩, fun H sub => by rw [el]; exact w.stops H ⟨SqL.of (sub _ _ h1), SqL.of (sub _ _ h3)⟩, fun i H x H' hi sub y => ?_⟩
  obtain ⟨T, v, u, rfl, hT, rfl, g1, g2⟩ := w.yields i H x H' (by omega) ⟨SqL.of (sub _ _ h1), SqL.of (sub _ _ h3)⟩ y
  have i1 : i < ds.length := by omega
  have i2 : i < es.length := by omega
  obtain ⟨v', k1, k2⟩ := h2.get (List.getElem?_eq_getElem i1)
  obtain ⟨u', k3, k4⟩ := h4.get (List.getElem?_eq_getElem i2)
  have g1 : us[i]? = some v := g1
  have g2 : vs[i]? = some u := g2
  rw [g1] at k1; cases k1
  rw [g2] at k3; cases k3
  exact ⟨_, zipW_get (List.getElem?_eq_getElem i1) (List.getElem?_eq_getElem i2), .inr ⟨T, _, _, hT, rfl, rfl, rfl, .cons k2 (.cons k4 .nil)⟩⟩
theorem walk_zipT {K : PySem.W.Frag} {a b : Addr} {xs ys : List V} {n : Nat} (hn : n = min xs.length ys.length) : Walk (ItzT K a b) n (fun H => SqT K H a xs ∧ SqT K H b ys) (YPair (fun i => xs[i]?) (fun i => ys[i]?)) := by
  subst hn
  refine ⟨fun i _ hi q => ?_, fun _ q => ⟨xs, ys, q.1, q.2, by omega⟩, fun i H v H' _ q y => ?_⟩
  · have h1 : i < xs.length := by omega
    have h2 : i < ys.length := by omega
    exact ⟨xs, ys, xs[i], ys[i], q.1, q.2, by simp [h1], by simp [h2]⟩
  · obtain ⟨T, x, z, h1, h2, h3, h4, h5⟩ := y
    exact ⟨T, x, z, h1, h2, h3, h4 xs q.1, h5 ys q.2⟩
theorem wk_zipT {ds es : List D} {us vs : List V} {p q : Addr} (h1 : SqT Γ.K z.G p us) (h2 : RepL Γ z ds us) (h3 : SqT Γ.K z.G q vs) (h4 : RepL Γ z es vs) : Wk Γ z (ItzT Γ.K p q) (List.zipWith (fun x y => D.tup [x, y]) ds es) := by
  have w := walk_zipT (K := Γ.K) (a := p) (b := q) (xs := us) (ys := vs) rfl
  have e1 := h2.length
  have e2 := h4.length
  have el : (List.zipWith (fun x y => D.tup [x, y]) ds es).length = min us.length vs.length := by rw [List.length_zipWith, e1, e2]
  refine ⟨fun i H hi sub => w.goes i H (by omega) ⟨sqT_mono sub h1, sqT_mono sub h3⟩, fun H sub => by rw [el]; exact w.stops H ⟨sqT_mono sub h1, sqT_mono sub h3⟩, fun i H x H' hi sub y => ?_⟩
  obtain ⟨T, v, u, rfl, hT, rfl, g1, g2⟩ := w.yields i H x H' (by omega) ⟨sqT_mono sub h1, sqT_mono sub h3⟩ y
  have i1 : i < ds.length := by omega
  have i2 : i < es.length := by omega
  obtain ⟨v', k1, k2⟩ := h2.get (List.getElem?_eq_getElem i1)
  obtain ⟨u', k3, k4⟩ := h4.get (List.getElem?_eq_getElem i2)
  have g1 : us[i]? = some v := g1
  have g2 : vs[i]? = some u := g2
  rw [g1] at k1; cases k1
  rw [g2] at k3; cases k3
  exact ⟨_, zipW_get (List.getElem?_eq_getElem i1) (List.getElem?_eq_getElem i2), .inr ⟨T, _, _, hT, rfl, rfl, rfl, .cons k2 (.cons k4 .nil)⟩⟩
theorem i_zip {e e2 : Expr} {p tpos : Pos} {elts : List Expr} {kk : Nat} {k : DenL} (hK : X.K = Γ.K) (hg : Gl X "zip") (hm : X.mg "zip" = none) (ha : PA X [e, e2] (tA Γ B W k))
    (hs : starEach [e, e2] X.env = (false, eval e X.env) :: starEach [e2] X.env) (hpl : (backTo pos (starEach [e2] X.env)).any (·.1) = false) :
    PI X (.Tuple elts kk tpos) (.Call (.Name "zip" p) [e, e2] [] pos) (tI Γ B W (zzip k)) := by
  refine PI.imp (pi_zipA hg hm ha hs hpl) fun σ H R ⟨m, z, rl, h⟩ => ?_
  refine bnd rl h fun z1 ds m1 xs H1 e1 r1 p1 h1 => ?_
  cases q0 : zipS ds with
  | none => rw [q0] at h1; exact h1.elim
  | some rs =>
    rw [q0] at h1
    unfold zipS at q0
    split at q0
    · rename_i d e
      obtain ⟨v, u, rfl, q1, q2⟩ := p1.two
      unfold zipD at q0
      split at q0
      · cases q0
        obtain ⟨pa, us, rfl, k1, k2⟩ := Rep.tup.mp q1
        obtain ⟨pb, ws, rfl, k3, k4⟩ := Rep.tup.mp q2
        exact ⟨pa, pb, us, ws, rfl, .inr ⟨by rw [hK]; exact r1.sqT k1, by rw [hK]; exact r1.sqT k3, h1 z1 _ H1 (Ext.refl _) r1 (by rw [hK]; exact wk_zipT k1 k2 k3 k4)⟩⟩
      · cases q0
        obtain ⟨pa, us, rfl, k1, k2⟩ := Rep.lst.mp q1
        obtain ⟨pb, ws, rfl, k3, k4⟩ := Rep.lst.mp q2
        exact ⟨pa, pb, us, ws, rfl, .inl ⟨SqL.of (r1.rf.sub _ _ k1), SqL.of (r1.rf.sub _ _ k3), h1 z1 _ H1 (Ext.refl _) r1 (by rw [hK]; exact wk_zipL k1 k2 k3 k4)⟩⟩
      · cases q0
    · cases q0
end
end Z

set_option Elab.async false
set_option linter.all false
set_option maxRecDepth 100000
set_option maxHeartbeats 2000000
/-! Z5: comprehensions, lists under construction, cells -/
namespace Z
open PySem PySem.Spec PyProof.Rows L2 RZ

section
variable {Γ : Gm} {B : Bs} {W : WX} {X : Cx} {σ : L2.St} {H H' : Hp} {z z' : Fz} {m : M}
/-- a list in limbo is changed -/
theorem Lim.write {p : Addr} {xs xs' : List D} {vs' : List V} (l : Lim Γ B z m σ H p xs) (r : Rl Γ B z m σ H) (q : RepL Γ z xs' vs') : Rl Γ B z m σ (upd H p (.lst vs')) ∧ Lim Γ B z m σ (upd H p (.lst vs')) p xs' := by
  refine ⟨⟨⟨fun b o e => ?_, r.rf.slen, fun n ys b e1 e2 => ?_, r.rf.out, r.rf.rnd⟩, ⟨r.sn.ext, fun b o e hn hx => ?_, fun b o e => ?_, r.sn.gnew, r.sn.rnew⟩, r.len, fun j s w e1 e2 => ?_, r.apart⟩, ⟨vs', upd_same, q⟩, l.g, l.r, l.b, l.sl⟩
  · rw [upd_ne (fun (q : b = p) => by rw [q, l.g] at e; cases e)]
    exact r.rf.sub b o e
  · obtain ⟨us, q1, q2⟩ := r.rf.sto n ys b e1 e2
    exact ⟨us, by rw [upd_ne (fun (q : b = p) => l.r (by rw [← q]; exact List.mem_of_getElem? e2))]; exact q1, q2⟩
  · rw [upd_ne (fun (q : b = p) => by
      rcases l.b with k | k
      · rw [q, k] at e; cases e
      · exact hx (by rw [q]; exact k))]
    exact r.sn.keep b o e hn hx
  · by_cases hb : b = p
    · subst hb; exact ⟨_, upd_same⟩
    · rw [upd_ne hb]; exact r.sn.live b o e
  · have t := r.slot j s w e1 e2
    cases s with
    | un => trivial
    | val d => exact t
    | bld ys =>
      obtain ⟨b, us, e, q1, q2, q3, q4, q5⟩ := t
      refine ⟨b, us, e, ?_, q2, q3, q4, q5⟩
      rw [upd_ne (fun (eb : b = p) => l.sl j ys e1 (by rw [e2, e, eb]))]
      exact q1
/-! ### the slots of a block's own names -/
def hideE (e : List Sl) : List Nat → List Sl
  | [] => e
  | v :: vs => (hideE e vs).set v .un
def hide (own : List Nat) (m : M) : M := ⟨hideE m.e own, m.S⟩
def backE (e0 e : List Sl) : List Nat → List Sl
  | [] => e
  | v :: vs => (backE e0 e vs).set v (e0.getD v .un)
theorem Rl.hide (r : Rl Γ B z m σ H) : ∀ own : List Nat, Rl Γ B z (hide own m) (wipe σ own) H
  | [] => r
  | v :: vs => (Rl.hide r vs).setUn
theorem hideE_len (e : List Sl) : ∀ own : List Nat, (hideE e own).length = e.length
  | [] => rfl
  | v :: vs => by simp [hideE, hideE_len e vs]
theorem hideE_bld {e : List Sl} {i : Nat} {xs : List D} : ∀ {own : List Nat}, (hideE e own)[i]? = some (.bld xs) → e[i]? = some (.bld xs) ∧ i ∉ own
  | [], h => ⟨h, by simp⟩
  | v :: vs, h => by
    unfold hideE at h
    by_cases hv : v = i
    · subst hv
      by_cases hl : v < (hideE e vs).length
      · rw [List.getElem?_set_self hl] at h; cases h
      · rw [List.getElem?_eq_none (by simpa using hl)] at h; cases h
    · rw [List.getElem?_set_ne hv] at h
      obtain ⟨h1, h2⟩ := hideE_bld h
      exact ⟨h1, by simp only [List.mem_cons, not_or]; exact ⟨fun q => hv q.symm, h2⟩⟩
theorem Lim.hide {p : Addr} {xs : List D} (l : Lim Γ B z m σ H p xs) (own : List Nat) : Lim Γ B z (hide own m) (wipe σ own) H p xs :=
  ⟨l.ex, l.g, l.r, l.b, fun i ys h1 h2 => by
    obtain ⟨k1, k2⟩ := hideE_bld h1
    rw [wipe_out k2] at h2
    exact l.sl i ys k1 h2⟩
theorem backE_len (e0 e : List Sl) : ∀ own : List Nat, (backE e0 e own).length = e.length
  | [] => rfl
  | v :: vs => by simp [backE, backE_len e0 e vs]
theorem backE_in {e0 e : List Sl} {i : Nat} {s : Sl} : ∀ {own : List Nat}, i ∈ own → (backE e0 e own)[i]? = some s → s = e0.getD i .un
  | v :: vs, hi, h => by
    unfold backE at h
    by_cases hv : v = i
    · subst hv
      have hl := (List.getElem?_eq_some_iff.mp h).1
      rw [List.length_set] at hl
      rw [List.getElem?_set_self hl] at h
      exact (Option.some.inj h).symm
    · rw [List.getElem?_set_ne hv] at h
      rcases List.mem_cons.mp hi with q | q
      · exact absurd q.symm hv
      · exact backE_in q h
theorem backE_out {e0 e : List Sl} {i : Nat} : ∀ {own : List Nat}, i ∉ own → (backE e0 e own)[i]? = e[i]?
  | [], _ => rfl
  | v :: vs, h => by
    have h1 : v ≠ i := fun q => h (by rw [q]; exact List.mem_cons_self)
    have h2 : i ∉ vs := fun q => h (List.mem_cons_of_mem _ q)
    unfold backE
    rw [List.getElem?_set_ne h1]
    exact backE_out h2
def noBld (e : List Sl) (own : List Nat) : Bool := own.all fun i => match e.getD i .un with
  | .bld _ => false
  | _ => true
theorem Rl.restore {z0 : Fz} {m0 : M} {H0 : Hp} {own : List Nat} (r0 : Rl Γ B z0 m0 σ H0) (r : Rl Γ B z m (wipe σ own) H) (e : Ext z0 z) (nb : noBld m0.e own = true) : Rl Γ B z ⟨backE m0.e m.e own, m.S⟩ σ H := by
  have nob : ∀ i xs, i ∈ own → m0.e.getD i .un ≠ .bld xs := fun i xs hi q => by
    have := List.all_eq_true.mp nb i hi
    rw [q] at this
    cases this
  refine ⟨r.rf, r.sn, by show (backE m0.e m.e own).length = _; rw [backE_len, r.len, wipe_length], fun i s w h1 h2 => ?_, fun i j xs ys a hij h1 h2 h3 h4 => ?_⟩
  · have h1 : (backE m0.e m.e own)[i]? = some s := h1
    by_cases hi : i ∈ own
    · have es := backE_in hi h1
      have hl : i < m0.e.length := by rw [r0.len]; exact (List.getElem?_eq_some_iff.mp h2).1
      have e0 : m0.e[i]? = some s := by rw [es, List.getD_eq_getElem?_getD, List.getElem?_eq_getElem hl]; rfl
      have q := r0.slot i s w e0 h2
      cases s with
      | un => trivial
      | val d =>
        obtain ⟨v, e1, e2⟩ := q
        exact ⟨v, e1, Rep.mono e d e2⟩
      | bld xs => exact absurd es.symm (nob i xs hi)
    · rw [backE_out hi] at h1
      exact r.slot i s w h1 (by rw [wipe_out hi]; exact h2)
  · have h1 : (backE m0.e m.e own)[i]? = some (.bld xs) := h1
    have h2 : (backE m0.e m.e own)[j]? = some (.bld ys) := h2
    have hi : i ∉ own := fun q => nob i xs q (backE_in q h1).symm
    have hj : j ∉ own := fun q => nob j ys q (backE_in q h2).symm
    rw [backE_out hi] at h1
    rw [backE_out hj] at h2
    exact r.apart i j xs ys a hij h1 h2 (by rw [wipe_out hi]; exact h3) (by rw [wipe_out hj]; exact h4)
theorem Lim.restore {m0 : M} {own : List Nat} {p : Addr} {xs : List D} (l : Lim Γ B z m (wipe σ own) H p xs) (nb : noBld m0.e own = true) : Lim Γ B z ⟨backE m0.e m.e own, m.S⟩ σ H p xs :=
  ⟨l.ex, l.g, l.r, l.b, fun i ys h1 h2 => by
    have h1 : (backE m0.e m.e own)[i]? = some (.bld ys) := h1
    have hi : i ∉ own := fun q => by
      have := List.all_eq_true.mp nb i q
      rw [← backE_in q h1] at this
      cases this
    rw [backE_out hi] at h1
    exact l.sl i ys h1 (by rw [wipe_out hi]; exact h2)⟩
theorem wipe_only {own : List Nat} {σ' : L2.St} (o : Only own (wipe σ own) σ') : wipe σ' own = wipe σ own := by
  refine List.ext_getElem? fun i => ?_
  by_cases hi : i ∈ own
  · have key : ∀ (s : L2.St) (vs : List Nat), i ∈ vs → (wipe s vs)[i]? = if i < s.length then some none else none := by
      intro s vs
      induction vs with
      | nil => intro h; exact nomatch h
      | cons v vs ih =>
        intro h
        show ((wipe s vs).set v none)[i]? = _
        by_cases hv : v = i
        · subst hv
          by_cases hl : v < s.length
          · rw [if_pos hl, List.getElem?_set_self (by rw [wipe_length]; exact hl)]
          · rw [if_neg hl, List.getElem?_eq_none (by rw [List.length_set, wipe_length]; omega)]
        · rw [List.getElem?_set_ne hv]
          rcases List.mem_cons.mp h with q | q
          · exact absurd q.symm hv
          · exact ih q
    rw [key _ _ hi, key _ _ hi, o.1, wipe_length]
  · rw [wipe_out hi, o.2 i hi]
/-! ### [el for t in src if c] -/
def compL (t : Tg) (c : M → R Bool) (el : Den) (own : List Nat) : List D → List D → M → R (List D)
  | [], acc, m => .ok acc m
  | d :: ds, acc, m => match t d m with
    | none => .bad
    | some m1 => match c m1 with
      | .ok b m2 => if b = true then (match el m2 with
          | .ok x m3 => compL t c el own ds (acc ++ [x]) (hide own m3)
          | _ => .bad) else compL t c el own ds acc (hide own m2)
      | _ => .bad
def yes : M → R Bool := fun m => .ok true m
def zcompF (src : DenL) (t : Tg) (c : M → R Bool) (el : Den) (own : List Nat) : DenL := fun m => (src m).bind fun ds m1 =>
  if (small ds.length && noBld m1.e own) = true then (match compL t c el own ds [] (hide own m1) with
    | .ok xs m2 => .ok xs ⟨backE m1.e m2.e own, m2.S⟩
    | _ => .bad) else .bad
abbrev W0 : WX := fun _ _ _ _ => False
/-- whatever the entry is -/
abbrev tEx (Γ : Gm) (f : Den) : TE := fun σ H Q => ∃ B, tE Γ B W0 f σ H Q
abbrev tTx (Γ : Gm) (f : M → R Bool) : TT := fun σ H Q => ∃ B, tT Γ B W0 f σ H Q
abbrev tGx (Γ : Gm) (own : List Nat) (g : Tg) : TG := fun v σ H Q => ∃ B, tG Γ B own g v σ H Q
theorem comp_conv {src : DenL} {t : Tg} {c : M → R Bool} {el : Den} {own : List Nat} {Q : VK} (hz : tF Γ B W (zcompF src t c el own) σ H Q) : tLc (tI Γ B W src) (tGx Γ own t) (tTx Γ c) (tEx Γ el) own σ H Q := by
  obtain ⟨m, z, rl, h⟩ := hz
  refine bnd rl h fun z1 ds m1 J H1 e1 r1 wk h1 => ?_
  split at h1
  · rename_i hs
    rw [Bool.and_eq_true] at hs
    obtain ⟨sm, nb⟩ := hs
    intro A hA
    obtain ⟨r2, l2⟩ := r1.limbo hA (RepL.nil (Γ := Γ) (z := z1))
    cases hr : compL t c el own ds [] (hide own m1) with
    | exc c d m => rw [hr] at h1; exact h1.elim
    | bad => rw [hr] at h1; exact h1.elim
    | ok xs mE =>
      rw [hr] at h1
      refine ⟨fun i n H => n = ds.length - i ∧ i ≤ ds.length ∧ ∃ m z acc, Ext z1 z ∧ Rl Γ B z m (wipe σ own) H ∧ Lim Γ B z m (wipe σ own) H A acc ∧ acc.length ≤ i ∧ compL t c el own (ds.drop i) acc m = .ok xs mE,
        ⟨ds.length, rfl, Nat.zero_le _, hide own m1, z1, [], Ext.refl _, r2.hide own, l2.hide own, Nat.le_refl _, hr⟩, ?_⟩
      rintro i n H ⟨rfl, hi, m, z, acc, ez, rl, li, la, he⟩
      have sub : ∀ a o, z1.G a = some o → H a = some o := fun a o q => rl.rf.sub a o (ez.g a o q)
      by_cases hlt : i < ds.length
      · refine .inr ⟨wk.go i H hlt sub, fun H => i + 1 ≤ ds.length ∧ ∃ m z acc, Ext z1 z ∧ Rl Γ B z m (wipe σ own) H ∧ Lim Γ B z m (wipe σ own) H A acc ∧ acc.length ≤ i + 1 ∧ compL t c el own (ds.drop (i + 1)) acc m = .ok xs mE, fun H' q => ⟨ds.length - (i + 1), by omega, rfl, q.1, q.2⟩, fun x H' y => ?_⟩
        obtain ⟨d, hd, q⟩ := wk.yld i H x H' hlt sub y
        rw [drop_cons hd] at he
        have rb := rl.rebase
        obtain ⟨z2, ez2, rb2, rp⟩ : ∃ z2, Ext z z2 ∧ Rl Γ (Bs.here m z (wipe σ own) H) z2 m (wipe σ own) H' ∧ Rep Γ z2 d x := by
          rcases q with ⟨rfl, rp⟩ | ⟨T, es, vs, hT, rfl, rfl, rfl, rp⟩
          · exact ⟨z, Ext.refl _, rb, Rep.mono ez d rp⟩
          · obtain ⟨x1, x2, x3⟩ := rb.newTup hT (RepL.mono ez es rp)
            exact ⟨_, x1, x2, x3⟩
        unfold compL at he
        cases e3 : t d m with
        | none => rw [e3] at he; cases he
        | some m3 =>
          rw [e3] at he
          refine ⟨_, m, z2, d, m3, rb2, rp, e3, fun z3 σ3 H3 x3 r3 o3 => ⟨wipe_only o3, _, m3, z3, r3, ?_⟩⟩
          dsimp only at he
          cases e4 : c m3 with
          | exc c d m => rw [e4] at he; cases he
          | bad => rw [e4] at he; cases he
          | ok b m4 =>
            rw [e4] at he
            dsimp only at he
            intro z4 b' H4 x4 r4 eb
            subst eb
            cases b' with
            | false =>
              rw [if_neg Bool.false_ne_true] at he ⊢
              refine ⟨by omega, hide own m4, z4, acc, ez.trans (ez2.trans (x3.trans x4)), ?_, ?_, by omega, he⟩
              · have q := (Rl.unbase rl r4).hide own
                rw [wipe_only o3] at q
                exact q
              · have q := (Lim.through li rl r4).hide own
                rw [wipe_only o3] at q
                exact q
            | true =>
              rw [if_pos rfl] at he ⊢
              refine ⟨_, m4, z4, r4, ?_⟩
              cases e5 : el m4 with
              | exc c d m => rw [e5] at he; cases he
              | bad => rw [e5] at he; cases he
              | ok v m5 =>
                rw [e5] at he
                dsimp only at he
                intro z5 y5 H5 x5 r5 p5
                have r6 := Rl.unbase rl r5
                have l6 := Lim.through li rl r5
                obtain ⟨us, k1, k2⟩ := l6.ex
                obtain ⟨r7, l7⟩ := l6.write r6 (k2.snoc p5)
                refine ⟨us, k1, ?_, by omega, hide own m5, z5, acc ++ [v], ez.trans (ez2.trans (x3.trans (x4.trans x5))), ?_, ?_, by simp; omega, he⟩
                · rw [← k2.length]
                  exact Nat.lt_of_le_of_lt la (Nat.lt_of_lt_of_le hlt (small_le sm))
                · have q := r7.hide own
                  rw [wipe_only o3] at q
                  exact q
                · have q := l7.hide own
                  rw [wipe_only o3] at q
                  exact q
      · have e : i = ds.length := by omega
        subst e
        rw [List.drop_length] at he
        unfold compL at he
        cases he
        exact .inl ⟨wk.stop H sub, h1 z _ H ez (Rl.restore r2 rl ez nb) ⟨A, rfl, li.restore nb⟩⟩
  · exact h1.elim
variable {elt tg iter : Expr} {ifs : List Expr} {scope : Scope} {own : List (Str × Nat)} {pos : Pos} {src : DenL} {t : Tg} {c : M → R Bool} {el : Den}
theorem z_compF (hc : X.calm = true) (hN : X.N.Nodup) (hi : PI X tg iter (tI Γ B W src)) (ok : BlkOk X.N X.env.scope scope own)
    (hg : ∀ (B : Bs) (s : Shared) (H : Hp) (C : Addr) (cl : List (Str × Addr)) (fp : List Addr), PG (X.blk s H scope (compEnvC scope cl C X.env) fp) tg (tG Γ B (own.map (·.2)) t))
    (ht : ∀ (B : Bs) (s : Shared) (H : Hp) (C : Addr) (cl : List (Str × Addr)) (fp : List Addr), PTs (X.blk s H scope (compEnvC scope cl C X.env) fp) ifs (tT Γ B W0 c))
    (he : ∀ (B : Bs) (s : Shared) (H : Hp) (C : Addr) (cl : List (Str × Addr)) (fp : List Addr), PE (X.blk s H scope (compEnvC scope cl C X.env) fp) elt (tE Γ B W0 el)) (hs : ∀ x, foldedSetIterable iter X.env x = pure x) :
    PE X (.ListComp elt [⟨tg, iter, ifs, 0⟩] scope pos) (tF Γ B W (zcompF src t c el (own.map (·.2)))) :=
  PE.imp (pe_lc hc hN hi ok (fun s H C cl fp => ⟨fun pins s σ H v u Q I r ⟨B, w⟩ => (hg B _ _ C cl fp).run pins s σ H v u Q I r w⟩) (fun s H C cl fp => ⟨fun pins s σ H Q I ⟨B, w⟩ => (ht B _ _ C cl fp).run pins s σ H Q I w⟩)
    (fun s H C cl fp => ⟨fun pins s σ H Q I ⟨B, w⟩ => (he B _ _ C cl fp).run pins s σ H Q I w⟩) hs) fun σ H Q hz => comp_conv hz
/-- y = [..], on one line -/
theorem ps_compF {i : Nat} {y : Str} {py spos : Pos} {q : List D → M → RS} {gg : TG} (hc : X.calm = true) (hN : X.N.Nodup) (hy : X.N[i]? = some y) (hyl : X.env.scope.names.lookup y = some .local)
    (hsw : swapsWith (.ListComp elt [⟨tg, iter, ifs, 0⟩] scope pos) (some (.Name y py)) spos.line X.env = pure true) (hi : PI X tg iter (tI Γ B W src)) (ok : BlkOk X.N X.env.scope scope own)
    (hg : ∀ (B : Bs) (s : Shared) (H : Hp) (C : Addr) (cl : List (Str × Addr)) (fp : List Addr), PG (X.blk s H scope (compEnvC scope cl C X.env) fp) tg (tG Γ B (own.map (·.2)) t))
    (ht : ∀ (B : Bs) (s : Shared) (H : Hp) (C : Addr) (cl : List (Str × Addr)) (fp : List Addr), PTs (X.blk s H scope (compEnvC scope cl C X.env) fp) ifs (tT Γ B W0 c))
    (he : ∀ (B : Bs) (s : Shared) (H : Hp) (C : Addr) (cl : List (Str × Addr)) (fp : List Addr), PE (X.blk s H scope (compEnvC scope cl C X.env) fp) elt (tE Γ B W0 el)) (hs : ∀ x, foldedSetIterable iter X.env x = pure x) :
    PS X (.Assign [.Name y py] (.ListComp elt [⟨tg, iter, ifs, 0⟩] scope pos) spos) (tAsg (tF Γ B W (zcompF src t c el (own.map (·.2)))) (gName i)) :=
  PS.imp (ps_setLc hc hN hy hyl hsw hi ok (fun s H C cl fp => ⟨fun pins s σ H v u Q I r ⟨B, w⟩ => (hg B _ _ C cl fp).run pins s σ H v u Q I r w⟩) (fun s H C cl fp => ⟨fun pins s σ H Q I ⟨B, w⟩ => (ht B _ _ C cl fp).run pins s σ H Q I w⟩)
    (fun s H C cl fp => ⟨fun pins s σ H Q I ⟨B, w⟩ => (he B _ _ C cl fp).run pins s σ H Q I w⟩) hs) fun E σ H hz => comp_conv hz
/-- a name set by a reading of a new list: built on, or frozen -/
theorem setF_conv {i : Nat} {k : DenL} {E : Ends} (hz : tS Γ B W (zsetB i k) E σ H) : tAsg (tF Γ B W k) (gName i) E σ H := by
  obtain ⟨m, z, rl, h⟩ := hz
  refine bndS rl h fun z1 d m1 x H1 e1 r1 p1 h1 => ?_
  obtain ⟨p, rfl, l⟩ := p1
  exact h1 z1 _ H1 (Ext.refl _) (l.setBld r1)
theorem setFz_conv {i : Nat} {k : DenL} {E : Ends} (hz : tS Γ B W (zasg (frz k) (gset i)) E σ H) : tAsg (tF Γ B W k) (gName i) E σ H := by
  obtain ⟨m, z, rl, h⟩ := hz
  have h' : PoS Γ B W E z ((k m).thenS fun ds m1 => .nx ⟨m1.e.set i (.val (.lst ds)), m1.S⟩) := by
    have e : zasg (frz k) (gset i) m = ((k m).thenS fun ds m1 => .nx ⟨m1.e.set i (.val (.lst ds)), m1.S⟩) := by
      unfold zasg frz gset
      cases k m <;> rfl
    rw [← e]
    exact h
  refine bndS rl h' fun z1 d m1 x H1 e1 r1 p1 h1 => ?_
  obtain ⟨p, rfl, l⟩ := p1
  obtain ⟨z2, x1, x2, x3⟩ := l.freeze r1
  exact h1 z2 _ H1 x1 (x2.setVal x3)
end
end Z

set_option Elab.async false
set_option linter.all false
set_option maxRecDepth 100000
set_option maxHeartbeats 2000000
/-! Z6: builtins by name, lists under construction, cells, several targets -/
namespace Z
open PySem PySem.Spec PyProof.Rows L2 RZ

section
variable {Γ : Gm} {B : Bs} {W : WX} {X : Cx} {σ : L2.St} {H H' : Hp} {z z' : Fz} {m : M} {x : Str} {p pos apos : Pos} {e : Expr} {es : List Expr} {fs : DenL} {id T : String}
theorem z_callB {r : List V → Hp → VK → Prop} {g : List D → Option D} (hc : CallR X (.builtin id) r) (cz : CallZ Γ B r g) (hg : Gl X x) (hm : X.mg x = none) (hv : bootBuiltins x = some (.builtin id)) (ha : PA X (e :: es) (tA Γ B W fs)) (hn : x ≠ "__name__") (hdb : (x == ("__debug__" : Str)) = false)
    (he : starEach (e :: es) X.env = (false, eval e X.env) :: starEach es X.env) (hpl : (backTo pos (starEach es X.env)).any (·.1) = false) : PE X (.Call (.Name x p) (e :: es) [] pos) (tE Γ B W (zcb g fs)) :=
  PE.imp (pe_callB hc hg hm hv ha hn hdb he hpl) fun _ _ _ hz => cb_conv cz hz
theorem z_callTy {r : List V → Hp → VK → Prop} {g : List D → Option D} (hc : CallR X (.type T) r) (cz : CallZ Γ B r g) (hg : Gl X x) (hm : X.mg x = none) (hv : bootBuiltins x = some (.type T)) (ha : PA X (e :: es) (tA Γ B W fs)) (hn : x ≠ "__name__") (hdb : (x == ("__debug__" : Str)) = false)
    (he : starEach (e :: es) X.env = (false, eval e X.env) :: starEach es X.env) (hpl : (backTo pos (starEach es X.env)).any (·.1) = false) : PE X (.Call (.Name x p) (e :: es) [] pos) (tE Γ B W (zcb g fs)) :=
  PE.imp (pe_callTy hc hg hm hv ha hn hdb he hpl) fun _ _ _ hz => cb_conv cz hz
/-! ### list(x), list(range(..)) -/
def listS : List D → Option (List D)
  | [.tup xs] => some xs
  | [.lst xs] => some xs
  | _ => none
def zlistF (fs : DenL) : DenL := fun m => (fs m).bind fun ds m1 => ofO (listS ds) m1
theorem z_listF (hK : X.K = Γ.K) (hg : Gl X "list") (hm : X.mg "list" = none) (hv : bootBuiltins "list" = some (.type "list")) (ha : PA X [e] (tA Γ B W fs))
    (he : starEach [e] X.env = (false, eval e X.env) :: starEach [] X.env) (hpl : (backTo pos (starEach [] X.env)).any (·.1) = false) : PE X (.Call (.Name "list" p) [e] [] pos) (tF Γ B W (zlistF fs)) := by
  refine PE.imp (pe_callTy call_list_of hg hm hv ha (by decide) (by decide) he hpl) fun σ H Q ⟨m, z, rl, h⟩ => ?_
  refine bnd rl h fun z1 ds m1 xs H1 e1 r1 p1 h1 => ?_
  cases q0 : listS ds with
  | none => rw [q0] at h1; exact h1.elim
  | some rs =>
    rw [q0] at h1
    unfold listS at q0
    split at q0
    · cases q0
      obtain ⟨v, rfl, q⟩ := p1.one
      obtain ⟨a, us, rfl, k1, k2⟩ := Rep.tup.mp q
      refine ⟨a, us, rfl, .inr (by rw [hK]; exact r1.sqT k1), fun l hl => ?_⟩
      obtain ⟨r2, l2⟩ := r1.limbo hl k2
      exact h1 z1 _ _ (Ext.refl _) r2 ⟨l, rfl, l2⟩
    · cases q0
      obtain ⟨v, rfl, q⟩ := p1.one
      obtain ⟨a, us, rfl, k1, k2⟩ := Rep.lst.mp q
      refine ⟨a, us, rfl, .inl (SqL.of (r1.rf.sub _ _ k1)), fun l hl => ?_⟩
      obtain ⟨r2, l2⟩ := r1.limbo hl k2
      exact h1 z1 _ _ (Ext.refl _) r2 ⟨l, rfl, l2⟩
    · cases q0
theorem rgV_rep (a b : Int) : RepL Γ z (range2D a b) (rgV a b) := by
  unfold range2D rgV
  generalize List.range (b - a).toNat = l
  induction l with
  | nil => exact .nil
  | cons i l ih => exact .cons (Rep.int.mpr rfl) ih
def rangeF (d : D) : Option (List D) := match d with
  | .int n => if decide (n.natAbs < 1000000) = true then some (range2D 0 n) else none
  | _ => none
def zlistRg (k : Den) : DenL := fun m => (k m).bind fun d m1 => ofO (rangeF d) m1
theorem z_listRg {p2 pos2 : Pos} {k : Den} (hc : X.calm = true) (hg : Gl X "list") (hm : X.mg "list" = none) (hg2 : Gl X "range") (hm2 : X.mg "range" = none) (ha : PE X e (tE Γ B W k)) (na : starEach [e] X.env = (false, eval e X.env) :: starEach [] X.env)
    (na2 : starEach [.Call (.Name "range" p2) [e] [] pos2] X.env = (false, eval (.Call (.Name "range" p2) [e] [] pos2) X.env) :: starEach [] X.env) : PE X (.Call (.Name "list" p) [.Call (.Name "range" p2) [e] [] pos2] [] pos) (tF Γ B W (zlistRg k)) := by
  refine PE.imp (pe_listRg hc hg hm (prg_1 hg2 hm2 ha na) na2) fun σ H Q ⟨m, z, rl, h⟩ => ?_
  refine bnd rl h fun z1 d m1 v H1 e1 r1 p1 h1 => ?_
  cases q0 : rangeF d with
  | none => rw [q0] at h1; exact h1.elim
  | some rs =>
    rw [q0] at h1
    unfold rangeF at q0
    split at q0
    · rename_i n
      split at q0
      · rename_i hs
        cases q0
        have hs := of_decide_eq_true hs
        refine ⟨n, Rep.int.mp p1, ⟨by omega, by omega, by omega, by omega, by omega⟩, fun q hq => ?_⟩
        obtain ⟨r2, l2⟩ := r1.limbo hq (rgV_rep (Γ := Γ) (z := z1) 0 n)
        exact h1 z1 _ _ (Ext.refl _) r2 ⟨q, rfl, l2⟩
      · cases q0
    · cases q0
/-! ### x[i] of cells too; cells stored -/
def zidx (f g : Den) : Den := fun m => (f m).bind fun d m1 => (g m1).bind fun e m2 => match d, e with
  | .cel n, .int i => ofO ((m2.S[n]?).bind fun xs => atI xs i) m2
  | d, e => ofO (idxD d e) m2
variable {a b : Expr} {f g : Den}
theorem z_idxS (hK : X.K = Γ.K) (ha : PE X a (tE Γ B W f)) (hb : PE X b (tE Γ B W g)) (hs : PlainIx b) : PE X (.Subscript a b pos) (tE Γ B W (zidx f g)) := by
  refine PE.imp (pe_ix ix_seq ha hb hs) fun σ H Q ⟨m, z, rl, h⟩ => ?_
  refine bnd rl h fun z1 d m1 x H1 e1 r1 p1 h1 => bnd r1 h1 fun z2 e m2 y H2 e2 r2 p2 h2 => ?_
  have w1 := Rep.mono e2 d p1
  split at h2
  · rename_i n i
    cases q : (m2.S[n]?).bind fun xs => atI xs i with
    | none => rw [q] at h2; exact h2.elim
    | some c =>
      rw [q] at h2
      obtain ⟨xs, q1, q2⟩ := Option.bind_eq_some_iff.mp q
      obtain ⟨pa, rfl, k1⟩ := Rep.cel.mp w1
      obtain ⟨vs, k2, k3⟩ := r2.rf.sto n xs pa q1 k1
      obtain ⟨v, k4, k5⟩ := atI_rep k3 q2
      exact .inl ⟨pa, vs, i, v, rfl, Rep.int.mp p2, SqL.of k2, k4, h2 z2 v H2 (Ext.refl _) r2 k5⟩
  · cases q : idxD d e with
    | none => rw [q] at h2; exact h2.elim
    | some c =>
      rw [q] at h2
      rw [hK]
      exact oz_idx z2 m2 σ H2 d e c x y Q r2 w1 p2 q h2
/-- o[i] = v of a cell -/
def celSet (m : M) (c k v : D) : RS := match c, k with
  | .cel n, .int i => match m.S[n]? with
    | some xs => match ixN xs.length i with
      | some j => .nx ⟨m.e, m.S.set n (xs.set j v)⟩
      | none => .bad
    | none => .bad
  | _, _ => .bad
def zsetItem (f o i : Den) : DenS := fun m => (f m).thenS fun v m1 => (o m1).thenS fun c m2 => (i m2).thenS fun k m3 => celSet m3 c k v
theorem z_setItem {o i : Expr} {k : Den} (ho : PE X o (tE Γ B W f)) (hi : PE X i (tE Γ B W g)) (he : PE X e (tE Γ B W k)) (hasg : ∀ v, assign (.Subscript o i apos) X.env v = (do
      let ov ← holding [v] (eval o X.env)
      let iv ← holding [v, ov] (eval i X.env)
      standAt apos
      holding [v, ov, iv] (setItem ov iv v)
      release [v, ov, iv] [])) (hs : swapsWithSole [.Subscript o i apos] e pos.line X.env = pure false) (hw : swappedStores [.Subscript o i apos] e X.env = pure none)
    (h1 : (assignEach [.Subscript o i apos] X.env).map (·.2) = [assign (.Subscript o i apos) X.env]) : PS X (.Assign [.Subscript o i apos] e pos) (tS Γ B W (zsetItem k f g)) := by
  refine PS.imp (ps_asg he (pg_sub ho hi set_list hasg) hs hw h1) fun E σ H ⟨m, z, rl, h⟩ => ?_
  refine bndS rl h fun z1 v m1 x H1 e1 r1 p1 h1 => bndS r1 h1 fun z2 c m2 y H2 e2 r2 p2 h2 => bndS r2 h2 fun z3 k m3 w H3 e3 r3 p3 h3 => ?_
  have w1 := Rep.mono (e2.trans e3) v p1
  have w2 := Rep.mono e3 c p2
  unfold celSet at h3
  split at h3
  · rename_i n i
    split at h3
    · rename_i xs q1
      split at h3
      · rename_i j q2
        obtain ⟨pa, rfl, k1⟩ := Rep.cel.mp w2
        obtain ⟨vs, k2, k3⟩ := r3.rf.sto n xs pa q1 k1
        exact ⟨pa, vs, i, j, rfl, Rep.int.mp p3, k2, by rw [← k3.length]; exact q2, h3 z3 σ _ (Ext.refl _) (r3.celWrite k1 (k3.set j w1))⟩
      · exact h3.elim
    · exact h3.elim
  · exact h3.elim
/-! ### lists under construction -/
theorem bld_at {i : Nat} {xs : List D} (r : Rl Γ B z m σ H) (h : m.e[i]? = some (.bld xs)) : ∃ a vs, σ[i]? = some (some (.ref a)) ∧ H a = some (.lst vs) ∧ RepL Γ z xs vs := by
  have hl : i < σ.length := by rw [← r.len]; exact (List.getElem?_eq_some_iff.mp h).1
  obtain ⟨a, vs, e, k1, k2, _⟩ := r.slot i _ _ h (List.getElem?_eq_getElem hl)
  exact ⟨a, vs, by rw [List.getElem?_eq_getElem hl, e], k1, k2⟩
def isBld (m : M) (i : Nat) : Bool := match m.e[i]? with
  | some (.bld _) => true
  | _ => false
theorem isBld_of {i : Nat} (h : isBld m i = true) : ∃ xs, m.e[i]? = some (.bld xs) := by
  unfold isBld at h
  split at h
  · rename_i xs e; exact ⟨xs, e⟩
  · cases h
/-- a method of slot i's list: its items and the arguments give an answer and new items -/
def zbld (i : Nat) (fs : DenL) (k : List D → List D → Option (D × List D)) : Den := fun m => if isBld m i = true then (fs m).bind fun ds m1 => (match m1.e[i]? with
  | some (.bld xs) => (match k xs ds with
    | some (d, ys) => .ok d ⟨m1.e.set i (.bld ys), m1.S⟩
    | none => .bad)
  | _ => .bad) else .bad
/-- r does what k says -/
def MtZ (Γ : Gm) (r : V → List V → Hp → VK → Prop) (k : List D → List D → Option (D × List D)) : Prop := ∀ (z : Fz) (H : Hp) (a : Addr) (xs ds ys : List D) (vs us : List V) (d : D) (Q : VK), (∀ a o, z.G a = some o → H a = some o) → H a = some (.lst vs) → RepL Γ z xs vs → RepL Γ z ds us → k xs ds = some (d, ys) →
  (∀ v ws, Rep Γ z d v → RepL Γ z ys ws → Q v (upd H a (.lst ws))) → r (.ref a) us H Q
theorem z_bld {i : Nat} {y name : Str} {r : V → List V → Hp → VK → Prop} {k : List D → List D → Option (D × List D)} (pa : PlainAttrs "list") (slot : Slot "list" name id) (hty : typeOf (.builtin id) = pure (.type "method_descriptor")) (hm : MtR X id r) (mz : MtZ Γ r k)
    (hN : X.N[i]? = some y) (hv : Vis X.env.scope y) (hd : (y == ("__debug__" : Str)) = false) (hcd : (y == ("__classdict__" : Str)) = false) (ha : PA X (e :: es) (tA Γ B W fs))
    (hbase : attributeBase (.Name y p) name X.env (eval (.Name y p) X.env) = eval (.Name y p) X.env)
    (hfew : ((backTo pos (starEach (e :: es) X.env)).all (fun x => !x.1) && (backToKw pos (keywordEach [] X.env)).all (fun x => x.1.isSome)
      && decide ((e :: es).length + ([] : List Keyword).length + (if ([] : List Keyword).isEmpty then 0 else 1) < 30)) = true)
    (hline : (apos.endLine == pos.line) = true) (hs : starEach (e :: es) X.env = (false, eval e X.env) :: starEach es X.env) (hplain : (backTo pos (starEach es X.env)).any (·.1) = false) :
    PE X (.Call (.Attribute (.Name y p) name apos) (e :: es) [] pos) (tE Γ B W (zbld i fs k)) := by
  refine PE.imp (pe_bm pa slot hty hm (pe_var hN hv hd hcd) ha hbase hfew hline hs hplain) fun σ H Q ⟨m, z, rl, h⟩ => ?_
  unfold zbld at h
  split at h
  · rename_i hb
    obtain ⟨xs0, hb⟩ := isBld_of hb
    obtain ⟨a, vs0, k1, k2, k3⟩ := bld_at rl hb
    refine ⟨.ref a, k1, .inl ⟨rfl, vs0, SqL.of k2⟩, ?_⟩
    refine bnd rl h fun z1 ds m1 us H1 e1 r1 p1 h1 => ?_
    split at h1
    · rename_i xs q1
      split at h1
      · rename_i d ys q2
        obtain ⟨a', vs, g1, g2, g3⟩ := bld_at r1 q1
        rw [k1] at g1
        cases g1
        exact mz z1 H1 a xs ds ys vs us d Q r1.rf.sub g2 g3 p1 q2 fun v ws w1 w2 => h1 z1 v _ (Ext.refl _) (r1.bldWrite q1 k1 w2) w1
      · exact h1.elim
    · exact h1.elim
  · exact h.elim
def appendK (xs ds : List D) : Option (D × List D) := match ds with
  | [d] => if small xs.length = true then some (.non, xs ++ [d]) else none
  | _ => none
theorem mz_append : MtZ Γ rAppend appendK := by
  intro z H a xs ds ys vs us d Q sub h1 h2 h3 hk q
  unfold appendK at hk
  split at hk
  · split at hk
    · rename_i hs
      cases hk
      obtain ⟨v, rfl, w⟩ := h3.one
      exact ⟨a, vs, v, rfl, rfl, h1, by rw [← h2.length]; exact small_lt hs, q .non _ (Rep.non.mpr rfl) (h2.snoc w)⟩
    · cases hk
  · cases hk
def extendK (xs ds : List D) : Option (D × List D) := match ds with
  | [.lst es] => if small (xs.length + es.length) = true then some (.non, xs ++ es) else none
  | _ => none
theorem mz_extend : MtZ Γ rExtend extendK := by
  intro z H a xs ds ys vs us d Q sub h1 h2 h3 hk q
  unfold extendK at hk
  split at hk
  · split at hk
    · rename_i hs
      cases hk
      obtain ⟨v, rfl, w⟩ := h3.one
      obtain ⟨b, ws, rfl, w1, w2⟩ := Rep.lst.mp w
      exact ⟨a, b, vs, ws, rfl, rfl, h1, sub _ _ w1, by rw [← h2.length, ← w2.length]; exact small_le hs, q .non _ (Rep.non.mpr rfl) (h2.append w2)⟩
    · cases hk
  · cases hk
theorem RepL.erase : ∀ {ds : List D} {vs : List V} (n : Nat), RepL Γ z ds vs → RepL Γ z (ds.eraseIdx n) (vs.eraseIdx n)
  | [], _, _, h => by simp only [RepL] at h; subst h; exact .nil
  | d :: ds, _, 0, h => by
    simp only [RepL] at h
    obtain ⟨v, us, rfl, _, h3⟩ := h
    exact h3
  | d :: ds, _, n + 1, h => by
    simp only [RepL] at h
    obtain ⟨v, us, rfl, h2, h3⟩ := h
    exact .cons h2 (h3.erase n)
def popK (xs ds : List D) : Option (D × List D) := match ds with
  | [.int i] => if decide (0 ≤ i ∧ i < 1000000) = true then (xs[i.toNat]?).map fun d => (d, xs.eraseIdx i.toNat) else none
  | _ => none
theorem mz_pop : MtZ Γ rPopAt popK := by
  intro z H a xs ds ys vs us d Q sub h1 h2 h3 hk q
  unfold popK at hk
  split at hk
  · rename_i i
    split at hk
    · rename_i hs
      have hs := of_decide_eq_true hs
      obtain ⟨d', g1, g2⟩ := Option.map_eq_some_iff.mp hk
      cases g2
      obtain ⟨v, rfl, w⟩ := h3.one
      obtain ⟨y, w1, w2⟩ := h2.get g1
      have hl := (List.getElem?_eq_some_iff.mp w1).1
      exact ⟨a, vs, i, i.toNat, y, rfl, by rw [Rep.int.mp w], h1, by omega, by omega, seqIndex_of hs.1 (by omega), w1, q y _ w2 (h2.erase _)⟩
    · cases hk
  · cases hk
/-- len of slot i's list (or of a value) -/
def zlenP (i : Nat) : Den := fun m => match m.e[i]? with
  | some (.bld xs) => .ok (.int xs.length) m
  | some (.val d) => ofO (lenD [d]) m
  | _ => .bad
theorem z_lenP {i : Nat} {y : Str} {py : Pos} (hK : X.K = Γ.K) (hN : X.N[i]? = some y) (hv : Vis X.env.scope y) (hd : (y == ("__debug__" : Str)) = false) (hcd : (y == ("__classdict__" : Str)) = false)
    (hg : Gl X "len") (hm : X.mg "len" = none) (hb : bootBuiltins "len" = some (.builtin "len")) (he : starEach [.Name y py] X.env = (false, eval (.Name y py) X.env) :: starEach [] X.env) (hpl : (backTo pos (starEach [] X.env)).any (·.1) = false) :
    PE X (.Call (.Name "len" p) [.Name y py] [] pos) (tE Γ B W (zlenP i)) := by
  refine PE.imp (pe_callB cr_lenZ hg hm hb (pa_cons (pe_var hN hv hd hcd) pa_nil he) (by decide) (by decide) he hpl) fun σ H Q ⟨m, z, rl, h⟩ => ?_
  unfold zlenP at h
  split at h
  · rename_i xs q
    obtain ⟨a, vs, k1, k2, k3⟩ := bld_at rl q
    exact ⟨.ref a, k1, .inl ⟨a, vs, rfl, .inl (SqL.of k2), h z _ H (Ext.refl _) rl (Rep.int.mpr (by rw [k3.length]))⟩⟩
  · rename_i d q
    have hl : i < σ.length := by rw [← rl.len]; exact (List.getElem?_eq_some_iff.mp q).1
    obtain ⟨v, ev, rp⟩ := rl.slot i _ _ q (List.getElem?_eq_getElem hl)
    refine ⟨v, by rw [List.getElem?_eq_getElem hl, ev], ?_⟩
    cases q0 : lenD [d] with
    | none => rw [q0] at h; exact h.elim
    | some c =>
      rw [q0] at h
      rw [hK]
      exact cz_len z m σ H [d] c [v] Q rl (.cons rp .nil) q0 h
  · exact h.elim
/-! ### several values at once, new lists among them -/
mutual
def SlV (Γ : Gm) (B : Bs) (z : Fz) (m : M) (σ : L2.St) (H : Hp) : Sl → V → Prop
  | .un, _ => False
  | .val d, v => Rep Γ z d v
  | .bld xs, v => ∃ p, v = .ref p ∧ Lim Γ B z m σ H p xs
end
def isB : Sl → Bool
  | .bld _ => true
  | _ => false
def SlsOk (Γ : Gm) (B : Bs) (z : Fz) (m : M) (σ : L2.St) (H : Hp) : List Sl → List V → Prop
  | [], vs => vs = []
  | s :: ss, vs => ∃ v ws, vs = v :: ws ∧ SlV Γ B z m σ H s v ∧ SlsOk Γ B z m σ H ss ws ∧ (isB s = true → ∀ (j : Nat) (t : Sl), ss[j]? = some t → isB t = true → ws[j]? ≠ some v)
abbrev rpS (Γ : Gm) (B : Bs) : RpT (List Sl) (List V) := fun z m σ H ss vs => SlsOk Γ B z m σ H ss vs
abbrev tAs (Γ : Gm) (B : Bs) (W : WX) (f : M → R (List Sl)) : TA := tZ Γ B W (rpS Γ B) f
def snil : M → R (List Sl) := fun m => .ok [] m
def sval (f : Den) (g : M → R (List Sl)) : M → R (List Sl) := fun m => (f m).bind fun d m1 => (g m1).bind fun ss m2 => .ok (.val d :: ss) m2
def snew (f : DenL) (g : M → R (List Sl)) : M → R (List Sl) := fun m => (f m).bind fun xs m1 => (g m1).bind fun ss m2 => .ok (.bld xs :: ss) m2
theorem s_nil : PA X [] (tAs Γ B W snil) := PA.imp pa_nil fun σ H Q ⟨m, z, r, h⟩ => h z [] H (Ext.refl _) r rfl
theorem s_val {gs : M → R (List Sl)} (ha : PE X e (tE Γ B W f)) (hr : PA X es (tAs Γ B W gs)) (hs : starEach (e :: es) X.env = (false, eval e X.env) :: starEach es X.env) : PA X (e :: es) (tAs Γ B W (sval f gs)) := by
  refine PA.imp (pa_cons ha hr hs) fun σ H Q ⟨m, z, rl, h⟩ => ?_
  refine bnd rl h fun z1 d m1 x H1 e1 r1 p1 h1 => bnd r1 h1 fun z2 ds m2 xs H2 e2 r2 p2 h2 => ?_
  exact h2 z2 (x :: xs) H2 (Ext.refl _) r2 ⟨x, xs, rfl, Rep.mono e2 d p1, p2, fun q => nomatch q⟩
theorem SlV.mono {s : Sl} {v : V} {m' : M} (h : SlV Γ B z m σ H s v) (r : Rl Γ B z m σ H) (r' : Rl Γ (Bs.here m z σ H) z' m' σ H') : SlV Γ B z' m' σ H' s v := by
  cases s with
  | un => exact h
  | val d => exact Rep.mono r'.sn.ext d h
  | bld xs => obtain ⟨p, e, l⟩ := h; exact ⟨p, e, l.through r r'⟩
theorem SlsOk.unbase {m' : M} (r : Rl Γ B z m σ H) (r' : Rl Γ (Bs.here m z σ H) z' m' σ H') : ∀ {ss : List Sl} {vs : List V}, SlsOk Γ (Bs.here m z σ H) z' m' σ H' ss vs → SlsOk Γ B z' m' σ H' ss vs
  | [], _, h => h
  | s :: ss, _, ⟨v, ws, e, h1, h2, h3⟩ => ⟨v, ws, e, by
      cases s with
      | un => exact h1
      | val d => exact h1
      | bld xs =>
        obtain ⟨p, e, l⟩ := h1
        refine ⟨p, e, l.ex, l.g, l.r, ?_, l.sl⟩
        rcases l.b with q | q
        · exact .inl (r.sn.back q)
        · exact blds_of r p q, SlsOk.unbase r r' h2, h3⟩
theorem SlsOk.new {m' : M} {p : Addr} {o : HO} (hp : H p = some o) (px : p ∉ blds m.e σ) : ∀ {ss : List Sl} {vs : List V}, SlsOk Γ (Bs.here m z σ H) z' m' σ H' ss vs → ∀ (j : Nat) (t : Sl), ss[j]? = some t → isB t = true → vs[j]? ≠ some (.ref p)
  | [], _, _, j, t, e, _ => by simp at e
  | s :: ss, _, ⟨v, ws, rfl, h1, h2, h3⟩, 0, t, e, hb => by
    simp at e
    subst e
    cases s with
    | bld xs =>
      obtain ⟨q, e, l⟩ := h1
      subst e
      intro k
      simp at k
      subst k
      rcases l.b with w | w
      · rw [show H q = none from w] at hp; cases hp
      · exact px w
    | un => cases hb
    | val d => cases hb
  | s :: ss, _, ⟨v, ws, rfl, h1, h2, h3⟩, j + 1, t, e, hb => by
    have q := SlsOk.new hp px h2 j t (by simpa using e) hb
    simpa using q
theorem s_new {k : DenL} {gs : M → R (List Sl)} (ha : PE X e (tF Γ B W k)) (hr : ∀ B, PA X es (tAs Γ B W gs)) (hs : starEach (e :: es) X.env = (false, eval e X.env) :: starEach es X.env) : PA X (e :: es) (tAs Γ B W (snew k gs)) := by
  refine PA.imp (pa_cons ha (t := fun σ H Q => ∃ B, tAs Γ B W gs σ H Q) ⟨fun pos pins s σ H Q I ⟨B, w⟩ => (hr B).run pos pins s σ H Q I w⟩ hs) fun σ H Q ⟨m, z, rl, h⟩ => ?_
  refine bnd rl h fun z1 xs m1 x H1 e1 r1 p1 h1 => ?_
  obtain ⟨p, rfl, l⟩ := p1
  refine ⟨Bs.here m1 z1 σ H1, m1, z1, r1.rebase, ?_⟩
  cases eg : gs m1 with
  | bad => rw [eg] at h1; exact h1
  | exc c d m2 =>
    rw [eg] at h1
    exact fun z2 dx u H2 x2 r2 => h1 z2 dx u H2 x2 (Rl.unbase r1 r2)
  | ok ss m2 =>
    rw [eg] at h1
    intro z2 vs H2 x2 r2 p2
    obtain ⟨us, g1, g2⟩ := l.ex
    have px : p ∉ blds m1.e σ := fun h => by
      obtain ⟨i, ys, k1, k2⟩ := mem_blds.mp h
      exact l.sl i ys k1 k2
    exact h1 z2 _ H2 x2 (Rl.unbase r1 r2) ⟨.ref p, vs, rfl, ⟨p, rfl, l.through r1 r2⟩, SlsOk.unbase r1 r2 p2, fun _ j t e hb => SlsOk.new g1 px p2 j t e hb⟩
/-- the slots are set one by one -/
def setAll : List Nat → List Sl → M → M
  | i :: is, s :: ss, m => setAll is ss ⟨m.e.set i s, m.S⟩
  | _, _, m => m
def setσ : List Nat → List V → L2.St → L2.St
  | i :: is, v :: vs, σ => setσ is vs (σ.set i (some v))
  | _, _, σ => σ
theorem SlsOk.after {i : Nat} {s : Sl} {v : V} : ∀ {ss : List Sl} {vs : List V}, SlsOk Γ B z m σ H ss vs → (isB s = true → ∀ (j : Nat) (t : Sl), ss[j]? = some t → isB t = true → vs[j]? ≠ some v) → SlsOk Γ B z ⟨m.e.set i s, m.S⟩ (σ.set i (some v)) H ss vs
  | [], _, h, _ => h
  | t :: ss, _, ⟨u, ws, rfl, h1, h2, h3⟩, hn => by
    refine ⟨u, ws, rfl, ?_, SlsOk.after h2 (fun hb j r e hr => by simpa using hn hb (j + 1) r (by simpa using e) hr), h3⟩
    cases t with
    | un => exact h1
    | val d => exact h1
    | bld xs =>
      obtain ⟨p, rfl, l⟩ := h1
      refine ⟨p, rfl, l.ex, l.g, l.r, l.b, fun j ys e1 e2 => ?_⟩
      have e1 : (m.e.set i s)[j]? = some (.bld ys) := e1
      by_cases hj : i = j
      · subst hj
        have hl := (List.getElem?_eq_some_iff.mp e1).1
        rw [List.length_set] at hl
        rw [List.getElem?_set_self hl] at e1
        cases e1
        have hl2 := (List.getElem?_eq_some_iff.mp e2).1
        rw [List.length_set] at hl2
        rw [List.getElem?_set_self hl2] at e2
        have e3 : v = .ref p := Option.some.inj (Option.some.inj e2)
        exact hn rfl 0 _ rfl rfl (by rw [e3]; rfl)
      · rw [List.getElem?_set_ne hj] at e1 e2
        exact l.sl j ys e1 e2
theorem Rl.setAll : ∀ {is : List Nat} {ss : List Sl} {vs : List V} {m : M} {σ : L2.St}, Rl Γ B z m σ H → SlsOk Γ B z m σ H ss vs → is.length = ss.length → Rl Γ B z (setAll is ss m) (setσ is vs σ) H
  | [], [], _, _, _, r, h, _ => by
    have h : _ = [] := h
    subst h
    exact r
  | i :: is, s :: ss, _, m, σ, r, ⟨v, ws, rfl, h1, h2, h3⟩, hl => by
    have r1 : Rl Γ B z ⟨m.e.set i s, m.S⟩ (σ.set i (some v)) H := by
      cases s with
      | un => exact h1.elim
      | val d => exact r.setVal h1
      | bld xs => obtain ⟨p, rfl, l⟩ := h1; exact l.setBld r
    show Rl Γ B z (Z.setAll is ss ⟨m.e.set i s, m.S⟩) (setσ is ws (σ.set i (some v))) H
    exact Rl.setAll r1 (h2.after h3) (by simpa using hl)
def zpar (is : List Nat) (fs : M → R (List Sl)) : DenS := fun m => (fs m).thenS fun ss m1 => if ss.length = is.length then .nx (setAll is ss m1) else .bad
theorem SlsOk.length : ∀ {ss : List Sl} {vs : List V}, SlsOk Γ B z m σ H ss vs → ss.length = vs.length
  | [], _, h => by have h : _ = [] := h; subst h; rfl
  | s :: ss, _, ⟨v, ws, rfl, _, h2, _⟩ => by simp [SlsOk.length h2]
variable {k2 : Nat} {pt pt2 px py : Pos} {kt : Nat} {gs : M → R (List Sl)}
theorem z_par2 {i j : Nat} {u v : Str} {a b : Expr} (hc : X.calm = true) (hN : X.N.Nodup) (hi : X.N[i]? = some u) (hj : X.N[j]? = some v) (hij : i ≠ j)
    (hx : X.env.scope.names.lookup u = some .local) (hy : X.env.scope.names.lookup v = some .local) (ha : PA X [a, b] (tAs Γ B W gs))
    (hw : swappedStores [.Tuple [.Name u px, .Name v py] kt pt] (.Tuple [a, b] k2 pt2) X.env = pure (some [u, v]))
    (hs : swapsWithSole [.Tuple [.Name u px, .Name v py] kt pt] (.Tuple [a, b] k2 pt2) pos.line X.env = pure false) :
    PS X (.Assign [.Tuple [.Name u px, .Name v py] kt pt] (.Tuple [a, b] k2 pt2) pos) (tS Γ B W (zpar [i, j] gs)) := by
  refine PS.imp (ps_par hc hN hi hj hij hx hy ha hw hs) fun E σ H ⟨m, z, rl, h⟩ => ?_
  refine bndS rl h fun z1 ss m1 vs H1 e1 r1 p1 h1 => ?_
  split at h1
  · rename_i hl
    have r2 := Rl.setAll (is := [i, j]) r1 p1 hl.symm
    have hv : vs.length = 2 := by rw [← p1.length]; exact hl
    match vs, hv with
    | [x, y], _ => exact ⟨x, y, rfl, h1 z1 _ H1 (Ext.refl _) r2⟩
  · exact h1.elim
theorem z_par3 {i j l : Nat} {u v w : Str} {a b c : Expr} {pz : Pos} (hc : X.calm = true) (hN : X.N.Nodup) (hi : X.N[i]? = some u) (hj : X.N[j]? = some v) (hl : X.N[l]? = some w) (hij : i ≠ j) (hil : i ≠ l) (hjl : j ≠ l)
    (hx : X.env.scope.names.lookup u = some .local) (hy : X.env.scope.names.lookup v = some .local) (hz : X.env.scope.names.lookup w = some .local) (ha : PA X [a, b, c] (tAs Γ B W gs))
    (hw : swappedStores [.Tuple [.Name u px, .Name v py, .Name w pz] kt pt] (.Tuple [a, b, c] k2 pt2) X.env = pure (some [u, v, w]))
    (hs : swapsWithSole [.Tuple [.Name u px, .Name v py, .Name w pz] kt pt] (.Tuple [a, b, c] k2 pt2) pos.line X.env = pure false) :
    PS X (.Assign [.Tuple [.Name u px, .Name v py, .Name w pz] kt pt] (.Tuple [a, b, c] k2 pt2) pos) (tS Γ B W (zpar [i, j, l] gs)) := by
  refine PS.imp (ps_par3 hc hN hi hj hl hij hil hjl hx hy hz ha hw hs) fun E σ H ⟨m, z, rl, h⟩ => ?_
  refine bndS rl h fun z1 ss m1 vs H1 e1 r1 p1 h1 => ?_
  split at h1
  · rename_i hl
    have r2 := Rl.setAll (is := [i, j, l]) r1 p1 hl.symm
    have hv : vs.length = 3 := by rw [← p1.length]; exact hl
    match vs, hv with
    | [x, y, t], _ => exact ⟨x, y, t, rfl, h1 z1 _ H1 (Ext.refl _) r2⟩
  · exact h1.elim
/-- the general way: the tuple is made, then taken apart -/
def gNames : List Nat → TGs
  | [] => gNil
  | i :: is => gCons (gName i) (gNames is)
theorem gNames_of {Q : L2.St → Hp → Prop} : ∀ {is : List Nat} {vs : List V} {σ : L2.St}, is.length = vs.length → Q (setσ is vs σ) H → gNames is vs σ H Q
  | [], [], _, _, q => ⟨rfl, q⟩
  | i :: is, v :: vs, σ, hl, q => ⟨v, vs, rfl, gNames_of (by simpa using hl) q⟩
theorem z_parN {is : List Nat} {ts : List Expr} (hK : X.K = Γ.K) (hc : X.calm = true) (ha : PA X es (tAs Γ B W gs)) (hts : PGs X ts (gNames is)) (hn : (assignEach ts X.env).length = is.length) (hst : (assignEach ts X.env).findIdx? (·.1) = none)
    (hs : swapsWithSole [.Tuple ts kt pt] (.Tuple es k2 pt2) pos.line X.env = pure false) (hw : swappedStores [.Tuple ts kt pt] (.Tuple es k2 pt2) X.env = pure none) (h1 : (assignEach [.Tuple ts kt pt] X.env).map (·.2) = [assign (.Tuple ts kt pt) X.env]) (hsm : is.length ≤ 1000) :
    PS X (.Assign [.Tuple ts kt pt] (.Tuple es k2 pt2) pos) (tS Γ B W (zpar is gs)) := by
  refine PS.imp (ps_asg (pe_tup ha) (pg_tup hc hts hn hst) hs hw h1) fun E σ H ⟨m, z, rl, h⟩ => ?_
  refine bndS rl h fun z1 ss m1 vs H1 e1 r1 p1 h1 => ?_
  split at h1
  · rename_i hl
    have hv : vs.length = is.length := by rw [← p1.length]; exact hl
    refine ⟨by rw [hv]; exact Nat.le_trans hsm (by decide), fun t ht => ⟨t, vs, rfl, SqT.of upd_same, hv, ?_⟩⟩
    refine gNames_of hv.symm ?_
    have r2 : Rl Γ B z1 m1 σ (upd H1 t (.tup vs)) := r1.call (r1.rf.limbo ht) (sn_limbo ht)
    have p2 : SlsOk Γ B z1 m1 σ (upd H1 t (.tup vs)) ss vs := by
      have go : ∀ (ss : List Sl) (vs : List V) (o : HO), SlsOk Γ B z1 m1 σ H1 ss vs → SlsOk Γ B z1 m1 σ (upd H1 t o) ss vs := by
        intro ss
        induction ss with
        | nil => intro vs o h; exact h
        | cons s ss ih =>
          rintro vs o ⟨v, ws, rfl, h1, h2, h3⟩
          refine ⟨v, ws, rfl, ?_, ih ws o h2, h3⟩
          cases s with
          | un => exact h1
          | val d => exact h1
          | bld xs =>
            obtain ⟨p, rfl, l⟩ := h1
            obtain ⟨us, k1, k2⟩ := l.ex
            exact ⟨p, rfl, ⟨us, by rw [upd_ne (ne_of_none k1 ht)]; exact k1, k2⟩, l.g, l.r, l.b, l.sl⟩
      exact go ss vs _ p1
    exact h1 z1 _ _ (Ext.refl _) (Rl.setAll r2 p2 hl.symm)
  · exact h1.elim
end
end Z

set_option Elab.async false
set_option linter.all false
set_option maxRecDepth 100000
set_option maxHeartbeats 2000000
/-! Z7: defs as functions of data; calls -/
namespace Z
open PySem PySem.Spec PyProof.Rows L2 RZ

/-- a def's answer: a value or an error, and the store -/
inductive RF where
  | ok (d : D) (S : List (List D)) | exc (c : Nat) (d : D) (S : List (List D)) | bad
abbrev Fn := List D → List (List D) → RF
def PoF (Γ : Gm) (z : Fz) (H : Hp) (r : RF) (Q : VK) (E : XK) : Prop := match r with
  | .ok d S => ∀ z' v H', Sn [] z z' H H' → Rf Γ z' S H' → Rep Γ z' d v → Q v H'
  | .exc c d S => ∀ z' dx u H', Sn [] z z' H H' → Rf Γ z' S H' → z'.G dx = some (.xd [(("value" : Str), u)]) → Rep Γ z' d u → E (.ref (Γ.cls c)) (some dx) H'
  | .bad => False
def spZ (Γ : Gm) (n : Nat) (φ : Fn) : Sp := fun vs H Q E => vs.length = n ∧ ∃ z ds S, Rf Γ z S H ∧ RepL Γ z ds vs ∧ PoF Γ z H (φ ds S) Q E
/-- a def keeps its promise wherever nothing is being shown (repr) -/
structure FnG (P : Program) (w : World) (K : PySem.W.Frag) (mg : Str → Option Value) (base : Heap) (k : Nat) (f : Addr) (fd : FuncData) (ps : List Str) (sp : Sp) : Prop where
  len : ∀ vs H Q E, sp vs H Q E → vs.length = ps.length
  run : ∀ (A : Around) (outer : List Env) (s : Shared) (H : Hp) (args : Args) (us : List Value) (vs : List V) (Q : VK) (E : XK), A.guards = some [] → Room k A → Env0 P w K mg base A outer s H → BindsTo s fd args (ps.zip us) → Vals vs us → sp vs H Q E →
    codeAny (model P w) A (.call (.ref f) args) (CR (L2.CX P w) outer P w H s Q E) s
theorem FnG.mono {P : Program} {w : World} {K : PySem.W.Frag} {mg : Str → Option Value} {base : Heap} {j k : Nat} {f : Addr} {fd : FuncData} {ps : List Str} {sp : Sp} (F : FnG P w K mg base j f fd ps sp) (h : j ≤ k) : FnG P w K mg base k f fd ps sp :=
  ⟨F.len, fun A outer s H args us vs Q E hg hr => F.run A outer s H args us vs Q E hg (hr.mono h)⟩

section
variable {P : Program} {w : World} {K : PySem.W.Frag} {mg : Str → Option Value} {base : Heap}
/-- a def by its body -/
theorem fnG_of {k : Nat} {f : Addr} {nm q : Str} {params : Arguments} {body : List Stmt} {sc : Scope} {dV kV doc pm cdv ct oc : Value} {an od : Option Addr} {osl : Array (Option Value)} {N ps : List Str} {sp : Sp}
    (lk : K.lookup f = some ⟨oc, od, .func (PySem.W.fnOf nm q params body sc dV kV doc pm an cdv ct), osl⟩) (hcd : PySem.W.codeIn K cdv q = true) (S : FnScope N ps sc)
    (len : ∀ vs H Q E, sp vs H Q E → vs.length = ps.length)
    (hb : ∀ (A : Around) (outer : List Env) (s : Shared) (H : Hp) (vs : List V) (Q : VK) (E : XK), A.guards = some [] → Room k (A.deeper (envOfC q sc s.heap.objs.size f cdv)) → sp vs H Q E →
      ∃ t, PSs (cxOf (L2.CX P w) P w K mg base N q sc f cdv A outer s H E) body t ∧ t { nx := fun _ H' => Q .non H', rt := Q } (start N vs) H) :
    FnG P w K mg base (k + 1) f (PySem.W.fnOf nm q params body sc dV kV doc pm an cdv ct) ps sp := by
  refine ⟨len, fun A outer s H args us vs Q E hg hr e0 bd r hsp => ?_⟩
  have old : ∀ b o, base.get? b = some o → s.heap.get? b = some o := fun b o e => (e0.bs b o e).1
  have ki : K.In s.heap := e0.mod.kin.keeps old
  have nol : s.heap.NoLimit := e0.mod.nolimit.keeps old
  have kinds : ∀ y ∈ ps.zip us, sc.names.lookup y.1 = some .local ∨ (sc.names.lookup y.1 = some .cell ∧ ((cellsFrom (s.heap.objs.size + 1) sc.names []).lookup y.1).isSome = true) := fun y hy =>
    (S.par y.1 (List.of_mem_zip (a := y.1) (b := y.2) hy).1).imp id fun c => ⟨c, PySem.W.cellsFrom_some _ _ _ (.inl c)⟩
  refine codeAny_call_function hr.depth (ki _ _ lk) rfl S.co S.gen rfl (PySem.W.codeRec_of ki hcd) (bd _ _ _ _ (wpAny_newFunctionEnv_cells S.kind kinds fun env he s1 x => ?_))
  subst he
  refine ⟨nol.keeps x.toInCall.keep, codeAny_func ?_⟩
  obtain ⟨t, ht, hq⟩ := hb A outer s H vs Q E hg (hr.deeper _) hsp
  have I0 := inv_start (CX := L2.CX P w) (N := N) (f := f) (cd := cdv) (qual := q) (E := E) S hr.hd e0 (len _ _ _ _ hsp) r x
  refine wpAny_mono (ht.run [] s1 (start N vs) H _ I0 hq) (fun fl s' hs => ?_) fun e s' hs => hs
  cases fl with
  | next => obtain ⟨σ', H', J, q'⟩ := hs; exact ⟨.non, H', J.os, J.bare, J.base, J.hok, rfl, q'⟩
  | ret u => obtain ⟨v, σ', H', J, rv, q'⟩ := hs; exact ⟨v, H', J.os, J.bare, J.base, J.hok, rv, q'⟩
  | brk => exact hs.elim fun _ hs => hs.elim fun _ hs => hs.2.elim
  | cont => exact hs.elim fun _ hs => hs.elim fun _ hs => hs.2.elim
end

section
variable {Γ : Gm} {B : Bs} {W : WX} {X : Cx} {σ : L2.St} {H : Hp} {z : Fz} {m : M} {k : Nat} {f : Addr} {fd : FuncData} {ps : List Str} {φ : Fn} {x : Str} {p pos : Pos} {e : Expr} {es : List Expr} {fs : DenL} {ds : List Value} {dvs : List V} {dd : List D}
/-- the callee's answer in the caller -/
def backR (r : RF) (m : M) : R D := match r with
  | .ok d S => .ok d ⟨m.e, S⟩
  | .exc c d S => .exc c d ⟨m.e, S⟩
  | .bad => .bad
def zcall (φ : Fn) (dd : List D) (fs : DenL) : Den := fun m => (fs m).bind fun ds m1 => backR (φ (ds ++ dd) m1.S) m1
theorem call_conv {n : Nat} {us : List V} {ds : List D} {Q : VK} (rl : Rl Γ B z m σ H) (rp : RepL Γ z ds us) (hn : us.length = n) (h : Po Γ B W (rpE Γ) σ z (backR (φ ds m.S) m) Q) : spZ Γ n φ us H Q (WE W σ) := by
  refine ⟨hn, z, ds, m.S, rl.rf, rp, ?_⟩
  cases e : φ ds m.S with
  | bad => rw [e] at h; exact h
  | ok d S =>
    rw [e] at h
    exact fun z' v H' st f r => h z' v H' st.ext (rl.call f st) r
  | exc c d S =>
    rw [e] at h
    exact fun z' dx u H' st f g r => h z' dx u H' st.ext (rl.call f st) g r
theorem run_fnG {pins : List (Addr × Obj)} {s : Shared} {Q : VK} {us : List Value} {vs : List V} {sp : Sp} (F : FnG X.prog X.w X.K X.mg X.base k f fd ps sp) (hg : X.A.guards = some []) (hr : Room k X.A) (hb : Binds X.K fd ps ds) (hd : Vals dvs ds) (tk : Takes X W)
    (I : Inv X pins σ H s) (r : Vals vs us) (h : sp (vs ++ dvs) H Q (WE W σ)) : wpAny (model X.prog X.w) X.A (call (.ref f) us) (EP X pins σ Q) X.xe s := by
  have r2 : Vals (vs ++ dvs) (us ++ ds) := r.append hd
  have hl : (us ++ ds).length = ps.length := r2.length.symm.trans (F.len _ _ _ _ h)
  refine wpAny_call (codeAny_mono (F.run X.A X.stack s H ⟨us, []⟩ (us ++ ds) (vs ++ dvs) Q (WE W σ) hg hr I.env0 (hb s us I.kIn hl) r2 h) fun r s' hq => ?_)
  match r, hq with
  | .error e, hq => exact passAt tk σ pins H s e s' I hq
  | .ok (.ret u), hq => exact I.after hq
theorem z_call {n : Nat} (F : FnG X.prog X.w X.K X.mg X.base k f fd ps (spZ Γ n φ)) (hgd : X.A.guards = some []) (hr : Room k X.A) (hg : Gl X x) (hm : X.mg x = some (.ref f)) (hk : PySem.W.keepIn X.K (.ref f) = true) (hb : Binds X.K fd ps ds) (hd : Vals dvs ds) (hdd : ∀ z, RepL Γ z dd dvs) (tk : Takes X W)
    (ha : PA X (e :: es) (tA Γ B W fs)) (hn : (e :: es).length + dd.length = n) (hdb : (x == ("__debug__" : Str)) = false) (he : starEach (e :: es) X.env = (false, eval e X.env) :: starEach es X.env) (hpl : (backTo pos (starEach es X.env)).any (·.1) = false) (hlen : ∀ m ds m1, fs m = .ok ds m1 → ds.length = (e :: es).length) :
    PE X (.Call (.Name x p) (e :: es) [] pos) (tE Γ B W (zcall φ dd fs)) := by
  refine ⟨fun pins s σ H Q I ⟨m, z, rl, h⟩ => ?_⟩
  have hA : tA Γ B W fs σ H fun vs H1 => spZ Γ n φ (vs ++ dvs) H1 Q (WE W σ) := by
    refine ⟨m, z, rl, ?_⟩
    cases e0 : fs m with
    | bad => have h' : Po Γ B W (rpE Γ) σ z ((fs m).bind fun ds m1 => backR (φ (ds ++ dd) m1.S) m1) Q := h; rw [e0] at h'; exact h'
    | exc c d m1 => have h' : Po Γ B W (rpE Γ) σ z ((fs m).bind fun ds m1 => backR (φ (ds ++ dd) m1.S) m1) Q := h; rw [e0] at h'; exact h'
    | ok ds m1 =>
      have h' : Po Γ B W (rpE Γ) σ z ((fs m).bind fun ds m1 => backR (φ (ds ++ dd) m1.S) m1) Q := h
      rw [e0] at h'
      intro z1 us H1 x1 r1 p1
      have hl := hlen m ds m1 e0
      have q := p1.append (hdd z1)
      refine call_conv r1 q ?_ (Po.mono h' x1)
      rw [← q.length, List.length_append, hl, hn]
  refine wpAny_Call_Name_kw (ld_glob I hg hm ?_ hdb)
  refine PySem.W.callWith_K (h₀ := X.base) I.ok.mod.kin hk (thn (ha.run pos pins s σ H _ I hA) fun us s1 ⟨vs, H1, I1, r, q⟩ => ⟨I1.kIn, ?_⟩) he hpl
  exact run_fnG F hgd hr hb hd tk I1 r q
theorem z_call0 {n : Nat} (F : FnG X.prog X.w X.K X.mg X.base k f fd ps (spZ Γ n φ)) (hgd : X.A.guards = some []) (hr : Room k X.A) (hg : Gl X x) (hm : X.mg x = some (.ref f)) (hk : PySem.W.keepIn X.K (.ref f) = true) (hb : Binds X.K fd ps ds) (hd : Vals dvs ds) (hdd : ∀ z, RepL Γ z dd dvs) (tk : Takes X W)
    (hn : dd.length = n) (hdb : (x == ("__debug__" : Str)) = false) : PE X (.Call (.Name x p) [] [] pos) (tE Γ B W (zcall φ dd znil)) := by
  refine ⟨fun pins s σ H Q I ⟨m, z, rl, h⟩ => ?_⟩
  refine wpAny_Call_Name_kw (ld_glob I hg hm ?_ hdb)
  refine PySem.W.callWith_K0 I.kIn hk (run_fnG (us := []) (vs := []) F hgd hr hb hd tk I .nil ?_)
  exact call_conv rl (hdd z) (by show dvs.length = n; rw [← (hdd z).length]; exact hn) h

/-! ### a def's own function -/
def padE (N : List Str) (ds : List D) : List Sl := ds.map .val ++ List.replicate (N.length - ds.length) .un
def endR (r : RS) : RF := match r with
  | .rt d m => .ok d m.S
  | .nx m => .ok .non m.S
  | .exc c d m => .exc c d m.S
  | _ => .bad
def bodyFn (N : List Str) (n : Nat) (f : DenS) : Fn := fun ds S => if ds.length = n then endR (f ⟨padE N ds, S⟩) else .bad
theorem start_rl {N : List Str} {vs : List V} {ds : List D} {S : List (List D)} (rf : Rf Γ z S H) (rp : RepL Γ z ds vs) : Rl Γ ⟨H, z, []⟩ z ⟨padE N ds, S⟩ (start N vs) H := by
  have el := rp.length
  refine ⟨rf, Sn.refl _ _ _, by simp [padE, L2.start, el], fun i s w h1 h2 => ?_, fun i j xs ys a _ h1 _ _ _ => ?_⟩
  · have h1 : (padE N ds)[i]? = some s := h1
    unfold padE at h1
    unfold L2.start at h2
    by_cases hi : i < ds.length
    · rw [List.getElem?_append_left (by simpa using hi), List.getElem?_map] at h1
      rw [List.getElem?_append_left (by simpa [← el] using hi), List.getElem?_map] at h2
      rw [List.getElem?_eq_getElem hi] at h1
      cases h1
      obtain ⟨v, k1, k2⟩ := rp.get (List.getElem?_eq_getElem hi)
      rw [k1] at h2
      cases h2
      exact ⟨v, rfl, k2⟩
    · rw [List.getElem?_append_right (by simpa using hi), List.getElem?_replicate] at h1
      split at h1
      · cases h1; trivial
      · cases h1
  · have h1 : (padE N ds)[i]? = some (.bld xs) := h1
    unfold padE at h1
    by_cases hi : i < ds.length
    · rw [List.getElem?_append_left (by simpa using hi), List.getElem?_map, List.getElem?_eq_getElem hi] at h1
      cases h1
    · rw [List.getElem?_append_right (by simpa using hi), List.getElem?_replicate] at h1
      split at h1
      · cases h1
      · cases h1
theorem body_conv {N : List Str} {n : Nat} {g : DenS} {vs : List V} {Q : VK} {E : XK} (h : spZ Γ n (bodyFn N n g) vs H Q E) :
    ∃ z, tS Γ ⟨H, z, []⟩ (fun c d _ H => E c d H) g { nx := fun _ H' => Q .non H', rt := Q } (start N vs) H := by
  obtain ⟨hn, z, ds, S, rf, rp, po⟩ := h
  refine ⟨z, ⟨padE N ds, S⟩, z, start_rl rf rp, ?_⟩
  unfold bodyFn at po
  rw [if_pos (by rw [rp.length]; exact hn)] at po
  cases e : g ⟨padE N ds, S⟩ with
  | nx m => rw [e] at po; exact fun z' σ' H' x r => po z' .non H' r.sn r.rf (Rep.non.mpr rfl)
  | rt d m => rw [e] at po; exact fun z' v σ' H' x r p => po z' v H' r.sn r.rf p
  | bk m => rw [e] at po; exact po.elim
  | ct m => rw [e] at po; exact po.elim
  | exc c d m => rw [e] at po; exact fun z' dx u σ' H' x r g p => po z' dx u H' r.sn r.rf g p
  | bad => rw [e] at po; exact po.elim
/-- the rule for a def of the text: its body's denotation, whatever the entry is -/
theorem FunD.okZ {P : Program} {w : World} {K : PySem.W.Frag} {mg : Str → Option Value} {base : Heap} {q : Str} {params : Arguments} {body : List Stmt} {sc : Scope} {dvs : List V} {kws : List (Str × V)} {N : List Str} {n : Nat} {g : DenS} (F : FunD K x q params body sc dvs kws f fd) (S : FnScope N ps sc) (hn : n = ps.length)
    (hb : ∀ (cdv : Value) (A : Around) (outer : List Env) (s : Shared) (H : Hp) (E : XK) (z : Fz), A.guards = some [] → Room k (A.deeper (envOfC q sc s.heap.objs.size f cdv)) →
      PSs (cxOf (L2.CX P w) P w K mg base N q sc f cdv A outer s H E) body (tS Γ ⟨H, z, []⟩ (fun c d _ H => E c d H) g)) : FnG P w K mg base (k + 1) f fd ps (spZ Γ n (bodyFn N n g)) := by
  obtain ⟨oc, od, dV, kV, doc, pm, an, cdv, ct, osl, rfl, lk, hcd, _, _⟩ := F.ex
  refine fnG_of lk hcd S (fun vs H Q E h => by rw [← hn]; exact h.1) fun A outer s H vs Q E hg hr h => ?_
  obtain ⟨z, hz⟩ := body_conv h
  exact ⟨_, hb cdv A outer s H E z hg hr, hz⟩
end
end Z

set_option Elab.async false
set_option linter.all false
set_option maxRecDepth 100000
set_option maxHeartbeats 2000000
/-! Z8: slices, tuple * int, isinstance, repr -/
namespace Z
open PySem PySem.Spec PyProof.Rows L2 RZ

section
variable {Γ : Gm} {B : Bs} {W : WX} {X : Cx} {σ : L2.St} {H : Hp} {z z' : Fz} {m : M} {x : Str} {p pos : Pos} {e : Expr} {es : List Expr} {f g : Den}
/-! ### slices -/
def cutL {α : Type} (xs : List α) (lo hi : Option Int) : List α := (xs.drop (HT.sIx xs.length 0 lo)).take (HT.sIx xs.length xs.length hi - HT.sIx xs.length 0 lo)
theorem cut_rep {ds : List D} {vs : List V} (h : RepL Γ z ds vs) (lo hi : Option Int) : RepL Γ z (cutL ds lo hi) (cutV vs lo hi) := by
  unfold cutL cutV
  rw [h.length]
  exact (h.drop _).take _
def sliceD (d : D) (lo hi : Option Int) : Option D := match d with
  | .tup xs => some (.tup (cutL xs lo hi))
  | .lst xs => some (.lst (cutL xs lo hi))
  | .str s => if small s.length = true then some (.str (cutS s lo hi)) else none
  | _ => none
abbrev rSlZ (K : PySem.W.Frag) : V → Option Int → Option Int → Hp → VK → Prop := fun x lo hi H Q => rSlL K x lo hi H Q ∨ (rSlA K x lo hi H Q ∨ rSlS x lo hi H Q)
theorem sl_Z : SlR X (rSlZ X.K) := SlR.or sl_list (SlR.or sl_tupA sl_str)
abbrev DenO := M → R (Option Int)
def onone : DenO := fun m => .ok none m
def osome (f : Den) : DenO := fun m => (f m).bind fun d m1 => match d with
  | .int i => .ok (some i) m1
  | _ => .bad
abbrev rpO : RpT (Option Int) (Option Int) := fun _ _ _ _ a b => b = a
abbrev tO (Γ : Gm) (B : Bs) (W : WX) (f : DenO) : TO := tZ Γ B W rpO f
theorem PO.imp {e : Option Expr} {t t' : TO} (h : PO X e t) (q : ∀ σ H Q, t' σ H Q → t σ H Q) : PO X e t' := ⟨fun pins s σ H Q I w => h.run pins s σ H Q I (q σ H Q w)⟩
theorem o_none : PO X none (tO Γ B W onone) := PO.imp po_none fun σ H Q ⟨m, z, rl, h⟩ => h z none H (Ext.refl _) rl rfl
theorem o_some (ha : PE X e (tE Γ B W f)) : PO X (some e) (tO Γ B W (osome f)) := by
  refine PO.imp (po_some ha) fun σ H Q ⟨m, z, rl, h⟩ => ?_
  refine bnd rl h fun z1 d m1 x H1 e1 r1 p1 h1 => ?_
  cases d with
  | int i => exact ⟨i, Rep.int.mp p1, h1 z1 _ H1 (Ext.refl _) r1 rfl⟩
  | _ => exact h1.elim
def zslice (f : Den) (lo hi : DenO) : Den := fun m => (f m).bind fun d m1 => (lo m1).bind fun l m2 => (hi m2).bind fun h m3 => ofO (sliceD d l h) m3
theorem z_slice {lo hi : Option Expr} {fl fh : DenO} {p2 : Pos} (hK : X.K = Γ.K) (ha : PE X e (tE Γ B W f)) (hl : PO X lo (tO Γ B W fl)) (hh : PO X hi (tO Γ B W fh)) : PE X (.Subscript e (.Slice lo hi none p2) pos) (tE Γ B W (zslice f fl fh)) := by
  refine PE.imp (pe_slice sl_Z ha hl hh) fun σ H Q ⟨m, z, rl, h⟩ => ?_
  refine bnd rl h fun z1 d m1 x H1 e1 r1 p1 h1 => bnd r1 h1 fun z2 l m2 l' H2 e2 r2 p2 h2 => bnd r2 h2 fun z3 u m3 u' H3 e3 r3 p3 h3 => ?_
  subst p2; subst p3
  have w1 := Rep.mono (e2.trans e3) d p1
  cases q0 : sliceD d l' u' with
  | none => rw [q0] at h3; exact h3.elim
  | some c =>
    rw [q0] at h3
    rw [hK]
    unfold sliceD at q0
    split at q0
    · cases q0
      obtain ⟨a, us, rfl, k1, k2⟩ := Rep.tup.mp w1
      refine .inr (.inl ⟨a, us, rfl, r3.sqT k1, fun hw => ?_, fun _ t ht => ?_⟩)
      · refine h3 z3 _ H3 (Ext.refl _) r3 ?_
        have e0 : ∀ xs : List D, xs.length = us.length → cutL xs l' u' = xs := fun xs el => by
          unfold cutL
          rw [el, hw.1, hw.2, List.drop_zero, Nat.sub_zero, ← el]
          exact List.take_length
        rw [e0 _ k2.length]
        exact w1
      · obtain ⟨x1, x2, x3⟩ := r3.newTup ht (cut_rep k2 l' u')
        exact h3 _ _ _ x1 x2 x3
    · cases q0
      obtain ⟨a, us, rfl, k1, k2⟩ := Rep.lst.mp w1
      refine .inl ⟨a, us, rfl, SqL.of (r3.rf.sub _ _ k1), fun t ht => ?_⟩
      obtain ⟨x1, x2, x3⟩ := r3.newLst ht (cut_rep k2 l' u')
      exact h3 _ _ _ x1 x2 x3
    · split at q0
      · rename_i hs
        cases q0
        exact .inr (.inr ⟨_, Rep.str.mp w1, small_le hs, h3 z3 _ H3 (Ext.refl _) r3 (Rep.str.mpr rfl)⟩)
      · cases q0
    · cases q0
/-! ### a tuple times an int -/
theorem tuple_mul1 (l : Addr) (items : Array Value) (n : Nat) (dd : Option Addr) (sl : Array (Option Value)) (u : Tok) (c1 : (items.isEmpty || (1 : Int) == 1) = true) :
    Meets (Builtin.«tuple.__mul__» ⟨[.ref l, .int 1 u], []⟩) (fun _ R s => s.heap.get? l = some { cls := .type "tuple", dict := dd, data := .seq items n, slots := sl } ∧ R (.ok (.ret (Value.ref l))) s) :=
  .of_wp fun prog w A R s h => by
    obtain ⟨hp, g, d, tk, os⟩ := s
    obtain ⟨hl, h⟩ := h
    have f1 := AutoSeq1.idx_int
    wp_walk using wpAny_loadPart' hl
    repeat (first
      | (refine wpAny_ite_false (decide_eq_false (by decide)) ?_; wp_walk using wpAny_loadPart' hl)
      | (refine wpAny_ite_true (decide_eq_true c1) ?_; wp_walk using wpAny_loadPart' hl))
    all_goals exact ⟨_, rfl, h⟩
theorem tuple_mul0 (l : Addr) (items : Array Value) (n : Nat) (dd : Option Addr) (sl : Array (Option Value)) (u : Tok) (c1 : (items.isEmpty || (0 : Int) == 1) = false) :
    Meets (Builtin.«tuple.__mul__» ⟨[.ref l, .int 0 u], []⟩) (fun _ R s => s.heap.get? l = some { cls := .type "tuple", dict := dd, data := .seq items n, slots := sl } ∧
      R (.ok (.ret (Value.ref s.heap.objs.size))) { s with heap := s.heap.push { cls := Value.type "tuple", data := Data.seq #[] }, toks := s.toks }) :=
  .of_wp fun prog w A R s h => by
    obtain ⟨hp, g, d, tk, os⟩ := s
    obtain ⟨hl, h⟩ := h
    have f1 := AutoSeq1.idx_int
    wp_walk using wpAny_loadPart' hl
    repeat (first
      | (refine wpAny_ite_false (decide_eq_false (by decide)) ?_; wp_walk using wpAny_loadPart' hl)
      | (refine wpAny_ite_false (decide_eq_false (by rw [c1]; exact Bool.false_ne_true)) ?_; wp_walk using wpAny_loadPart' hl)
      | (refine wpAny_ite_true (decide_eq_true (by first | rfl | decide)) ?_; wp_walk using wpAny_loadPart' hl))
    all_goals exact ⟨_, rfl, h⟩
def rRepZ (K : PySem.W.Frag) : R2 := fun x y H Q => ∃ l k xs, x = .ref l ∧ y = .int k ∧ SqT K H l xs ∧ xs ≠ [] ∧ 0 ≤ k ∧ k ≤ 1000 ∧ xs.length ≤ 1000 ∧ (k = 1 → Q (.ref l) H) ∧ (k ≠ 1 → ∀ p, H p = none → Q (.ref p) (upd H p (.tup (List.replicate k.toNat xs).flatten)))
theorem op_repZ : OpR X (binaryOp .Mult) (rRepZ X.K) := by
  intro pins s σ H x y v u Q I rx ry h
  obtain ⟨l, k, xs, rfl, rfl, hT, hne, h0, h1, hz, q1, q2⟩ := h
  by_cases hk : 2 ≤ k
  · exact op_repT pins s σ H _ _ v u Q I rx ry ⟨l, k, xs, rfl, rfl, hT, hne, hk, h1, hz, q2 (by omega)⟩
  · cases rx
    obtain ⟨t, rfl⟩ := ry
    obtain ⟨its, r, ⟨⟨cls, dd, data, sl⟩, ho, hc, n, hd⟩, hs⟩ := I.tuple hT
    simp only at hc hd
    subst hc hd
    have hle : its.length = xs.length := r.length.symm
    have hi : its.toArray.isEmpty = false := by
      cases its with
      | nil => exact absurd (List.eq_nil_of_length_eq_zero hle.symm) hne
      | cons a b => rfl
    have hk' : k = 0 ∨ k = 1 := by omega
    rcases hk' with rfl | rfl
    · refine wpAny_binaryOp_repeat_ref (T := "tuple") (U := "int") (by decide) ⟨_, ho, rfl⟩ (fun s' => typeIs_int s' 0 t) noFill_tuple_mul F.fills_int_mul F.slot_int_rmul repeat_tuple F.slot_int_index.lookup
        (call_meets F.slot_int_rmul (typeIs_int s 0 t) F.entry_int_rmul (F.args_int_rmul_2 _ _) (int_rmul_tuple 0 t l its.toArray n dd sl)
          ⟨ho, rfl, ⟨_, ho, rfl⟩, call_meets F.slot_tuple_mul ⟨_, ho, rfl⟩ F.entry_tuple_mul (F.args_tuple_mul_2 _ _) (tuple_mul0 l its.toArray n dd sl t (by rw [hi]; rfl)) ⟨ho, ?_⟩⟩)
      refine ⟨.ref s.heap.objs.size, _, I.laid (t' := s.toks) (o := .tup []) (fun b ob q => Heap.get?_push_of_some _ q) (Nat.le_refl _) ?_, rfl, q2 (by decide) _ (I.hok.fresh (Nat.le_refl _))⟩
      exact ⟨Nat.zero_le _, [], .nil, IsTup.new _ _⟩
    · refine wpAny_binaryOp_repeat_ref (T := "tuple") (U := "int") (by decide) ⟨_, ho, rfl⟩ (fun s' => typeIs_int s' 1 t) noFill_tuple_mul F.fills_int_mul F.slot_int_rmul repeat_tuple F.slot_int_index.lookup
        (call_meets F.slot_int_rmul (typeIs_int s 1 t) F.entry_int_rmul (F.args_int_rmul_2 _ _) (int_rmul_tuple 1 t l its.toArray n dd sl)
          ⟨ho, rfl, ⟨_, ho, rfl⟩, call_meets F.slot_tuple_mul ⟨_, ho, rfl⟩ F.entry_tuple_mul (F.args_tuple_mul_2 _ _) (tuple_mul1 l its.toArray n dd sl t (by rw [hi]; rfl)) ⟨ho, ?_⟩⟩)
      exact ⟨.ref l, H, I, rfl, q1 rfl⟩
theorem rep_flat {ds : List D} {vs : List V} (h : RepL Γ z ds vs) : ∀ k : Nat, RepL Γ z (List.replicate k ds).flatten (List.replicate k vs).flatten
  | 0 => .nil
  | k + 1 => by
    rw [List.replicate_succ, List.replicate_succ, List.flatten_cons, List.flatten_cons]
    exact h.append (rep_flat h k)
/-- * of ints, of a tuple or a list and an int -/
def mulZ : D → D → Option D
  | .tup xs, .int k => if decide (xs.isEmpty = false ∧ 0 ≤ k ∧ k ≤ 1000 ∧ xs.length ≤ 1000) = true then some (.tup (List.replicate k.toNat xs).flatten) else none
  | .lst xs, .int k => if decide (0 ≤ k ∧ k ≤ 1000 ∧ xs.length ≤ 1000) = true then some (.lst (List.replicate k.toNat xs).flatten) else none
  | d, e => mulD d e
abbrev rMulZ (K : PySem.W.Frag) : R2 := fun x y H Q => rI CMulW (fun i j => .int (i * j)) x y H Q ∨ (rRepZ K x y H Q ∨ rRep x y H Q)
theorem op_mulZ : OpR X (binaryOp .Mult) (rMulZ X.K) := OpR.or op_mulW (OpR.or op_repZ op_rep)
theorem oz_mulZ : OpZ Γ B (rMulZ Γ.K) mulZ := by
  intro z m σ H d e c x y Q rl rd re hc q
  unfold mulZ at hc
  split at hc
  · split at hc
    · rename_i xs k hs
      have hs := of_decide_eq_true hs
      cases hc
      obtain ⟨a, us, rfl, k1, k2⟩ := Rep.tup.mp rd
      refine .inr (.inl ⟨a, k, us, rfl, Rep.int.mp re, rl.sqT k1, fun e0 => (by have h5 := hs.1; rw [k2.nil_iff.mpr e0] at h5; cases h5), hs.2.1, hs.2.2.1, by rw [← k2.length]; exact hs.2.2.2, fun ek => ?_, fun _ t ht => ?_⟩)
      · subst ek
        refine q z _ H (Ext.refl _) rl ?_
        have e1 : (List.replicate (1 : Int).toNat xs).flatten = xs := by simp
        rw [e1]
        exact rd
      · obtain ⟨x1, x2, x3⟩ := rl.newTup ht (rep_flat k2 k.toNat)
        exact q _ _ _ x1 x2 x3
    · cases hc
  · split at hc
    · rename_i xs k hs
      have hs := of_decide_eq_true hs
      cases hc
      obtain ⟨a, us, rfl, k1, k2⟩ := Rep.lst.mp rd
      refine .inr (.inr ⟨a, k, us, rfl, Rep.int.mp re, rl.rf.sub _ _ k1, by omega, by omega, ?_, fun t ht => ?_⟩)
      · rw [← k2.length]
        have h1 : k.toNat ≤ 1000 := by omega
        have h2 : xs.length * k.toNat ≤ 1000 * 1000 := Nat.mul_le_mul hs.2.2 h1
        exact Nat.le_trans h2 (by decide)
      · obtain ⟨x1, x2, x3⟩ := rl.newLst ht (rep_flat k2 k.toNat)
        exact q _ _ _ x1 x2 x3
    · cases hc
  · exact .inl (oz_mul z m σ H d e c x y Q rl rd re hc q)
/-! ### isinstance of a built-in class -/
def tyN : D → String
  | .non => "NoneType"
  | .bl _ => "bool"
  | .int _ => "int"
  | .str _ => "str"
  | .tup _ => "tuple"
  | .lst _ => "list"
  | .dct _ _ => "dict"
  | .cel _ => "list"
  | .obj _ _ => "object"
  | .scr _ => "list"
def isiD (T : String) (d : D) : Option D := match d with
  | .obj _ _ => none
  | .scr _ => none
  | .cel _ => none
  | d => (kitB (tyN d) T).map .bl
theorem tyX_tup {K : PySem.W.Frag} {a : Addr} {vs : List V} (h : SqT K H a vs) : TyX K H (.ref a) (.type "tuple") := by
  rcases h with (h | ⟨o, h⟩) | ⟨o, its, n, hk, hc, _⟩
  · exact .base (.tup h)
  · exact .fTuple h
  · exact .kTuple hk hc
theorem cz_isi {T : String} : ∀ (z : Fz) (m : M) (σ : L2.St) (H : Hp) (d c : D) (x : V) (Q : VK), Rl Γ B z m σ H → Rep Γ z d x → isiD T d = some c → (∀ z' v H', Ext z z' → Rl Γ B z' m σ H' → Rep Γ z' c v → Q v H') → rIsi Γ.K [x, .ty T] H Q := by
  intro z m σ H d c x Q rl rd hc q
  have fin : ∀ (N : String) (b : Bool), TyX Γ.K H x (.type N) → kitB N T = some b → c = .bl b → rIsi Γ.K [x, .ty T] H Q := fun N b hx hb hcb => by
    subst hcb
    exact ⟨x, .ty T, .type N, .type T, b, rfl, .ty T, hx, kit_ty hb, q z _ H (Ext.refl _) rl (Rep.bl.mpr rfl)⟩
  cases d with
  | obj _ _ => cases hc
  | scr _ => cases hc
  | cel _ => cases hc
  | non =>
    obtain ⟨b, h1, h2⟩ := Option.map_eq_some_iff.mp hc
    rw [Rep.non.mp rd] at fin ⊢
    exact fin _ b (.base .non) h1 h2.symm
  | bl k =>
    obtain ⟨b, h1, h2⟩ := Option.map_eq_some_iff.mp hc
    rw [Rep.bl.mp rd] at fin ⊢
    exact fin _ b (.base (.bl k)) h1 h2.symm
  | int k =>
    obtain ⟨b, h1, h2⟩ := Option.map_eq_some_iff.mp hc
    rw [Rep.int.mp rd] at fin ⊢
    exact fin _ b (.base (.int k)) h1 h2.symm
  | str k =>
    obtain ⟨b, h1, h2⟩ := Option.map_eq_some_iff.mp hc
    rw [Rep.str.mp rd] at fin ⊢
    exact fin _ b (.base (.str k)) h1 h2.symm
  | tup ds =>
    obtain ⟨b, h1, h2⟩ := Option.map_eq_some_iff.mp hc
    obtain ⟨a, us, rfl, k1, k2⟩ := Rep.tup.mp rd
    exact fin _ b (tyX_tup (rl.sqT k1)) h1 h2.symm
  | lst ds =>
    obtain ⟨b, h1, h2⟩ := Option.map_eq_some_iff.mp hc
    obtain ⟨a, us, rfl, k1, k2⟩ := Rep.lst.mp rd
    exact fin _ b (.base (.lst (rl.rf.sub _ _ k1))) h1 h2.symm
  | dct ks ds =>
    obtain ⟨b, h1, h2⟩ := Option.map_eq_some_iff.mp hc
    simp only [Rep] at rd
    obtain ⟨a, kvs, rfl, k1, k2⟩ := rd
    exact fin _ b (.base (.dK (rl.rf.sub _ _ k1))) h1 h2.symm
def zisi (T : String) (f : Den) : Den := fun m => (f m).bind fun d m1 => ofO (isiD T d) m1
theorem z_isi {T : String} {x : Str} {p2 : Pos} (hK : X.K = Γ.K) (hg : Gl X "isinstance") (hm : X.mg "isinstance" = none) (hb : bootBuiltins "isinstance" = some (.builtin "isinstance")) (hg2 : Gl X x) (hm2 : X.mg x = none) (hb2 : bootBuiltins x = some (.type T)) (hn2 : x ≠ "__name__") (hd2 : (x == ("__debug__" : Str)) = false)
    (ha : PE X e (tE Γ B W f)) (he : starEach [e, .Name x p2] X.env = (false, eval e X.env) :: starEach [.Name x p2] X.env) (he2 : starEach [.Name x p2] X.env = (false, eval (.Name x p2) X.env) :: starEach [] X.env) (hpl : (backTo pos (starEach [.Name x p2] X.env)).any (·.1) = false) :
    PE X (.Call (.Name "isinstance" p) [e, .Name x p2] [] pos) (tE Γ B W (zisi T f)) := by
  refine PE.imp (pe_callB call_isi hg hm hb (pa_cons ha (pa_cons (pe_bltn (v := .ty T) hg2 hm2 hb2 rfl hn2 hd2) pa_nil he2) he) (by decide) (by decide) he hpl) fun σ H Q ⟨m, z, rl, h⟩ => ?_
  refine bnd rl h fun z1 d m1 v H1 e1 r1 p1 h1 => ?_
  cases q : isiD T d with
  | none => rw [q] at h1; exact h1.elim
  | some c =>
    rw [q] at h1
    rw [hK]
    exact cz_isi z1 m1 σ H1 d c v Q r1 p1 q h1
/-! ### a < b < c -/
def zchain (k k' : D → D → Option D) (f g h : Den) : Den := fun m => (f m).bind fun d m1 => (g m1).bind fun e m2 => (ofO (k d e) m2).bind fun b m3 => match b with
  | .bl true => (h m3).bind fun c m4 => ofO (k' e c) m4
  | .bl false => .ok (.bl false) m3
  | _ => .bad
variable {a b c : Expr} {h : Den}
theorem chain_conv {r r' : R2} {k k' : D → D → Option D} (oz : OpZ Γ B r k) (oz' : OpZ Γ B r' k') {Q : VK} (hz : tE Γ B W (zchain k k' f g h) σ H Q) : tChain r r' (tE Γ B W f) (tE Γ B W g) (tE Γ B W h) σ H Q := by
  obtain ⟨m, z, rl, hh⟩ := hz
  refine bnd rl hh fun z1 d m1 x H1 e1 r1 p1 h1 => bnd r1 h1 fun z2 e m2 y H2 e2 r2 p2 h2 => ?_
  cases q : k d e with
  | none => rw [q] at h2; exact h2.elim
  | some b =>
    rw [q] at h2
    refine oz z2 m2 σ H2 d e b x y _ r2 (Rep.mono e2 d p1) p2 q fun z3 v H3 e3 r3 p3 => ?_
    cases b with
    | bl b =>
      refine ⟨b, Rep.bl.mp p3, ?_⟩
      cases b with
      | false => exact h2 z3 _ H3 e3 r3 (Rep.bl.mpr rfl)
      | true =>
        rw [if_pos rfl]
        refine bnd r3 (Po.mono h2 e3) fun z4 c m4 w H4 e4 r4 p4 h4 => ?_
        cases q' : k' e c with
        | none => rw [q'] at h4; exact h4.elim
        | some t =>
          rw [q'] at h4
          exact oz' z4 m4 σ H4 e c t y w Q r4 (Rep.mono (e3.trans e4) e p2) p4 q' h4
    | _ => exact h2.elim
theorem z_chain {op op' : CmpOp} {r r' : R2} {k k' : D → D → Option D} (ho : OpR X (compareOp op) r) (ho' : OpR X (compareOp op') r') (oz : OpZ Γ B r k) (oz' : OpZ Γ B r' k') (ha : PE X a (tE Γ B W f)) (hb : PE X b (tE Γ B W g)) (hc : PE X c (tE Γ B W h))
    (hm : lastMarks [op, op'] [b, c] = false) : PE X (.Compare a [op, op'] [b, c] pos) (tE Γ B W (zchain k k' f g h)) := PE.imp (pe_chain ho ho' ha hb hc hm) fun _ _ _ hz => chain_conv oz oz' hz
theorem chain_toB {r : R2} {r' : R2} {Q : Bool → Hp → Prop} {k : Den} (hz : tT Γ B W (toB k) σ H Q) : tE Γ B W k σ H fun x H1 => ∃ c, x = .bl c ∧ Q c H1 := toB_conv hz
theorem z_chainT {op op' : CmpOp} {r r' : R2} {k k' : D → D → Option D} (ho : OpR X (compareOp op) r) (ho' : OpR X (compareOp op') r') (oz : OpZ Γ B r k) (oz' : OpZ Γ B r' k') (ha : PE X a (tE Γ B W f)) (hb : PE X b (tE Γ B W g)) (hc : PE X c (tE Γ B W h))
    (hm : lastMarks [op, op'] [b, c] = false) : PT X (.Compare a [op, op'] [b, c] pos) (tT Γ B W (toB (zchain k k' f g h))) := by
  refine PT.imp (pt_chain ho ho' ha hb hc hm) fun σ H Q hz => ?_
  exact chain_conv oz oz' (toB_conv hz)
end
end Z

set_option maxHeartbeats 400000
open PySem PySem.Spec PyProof.Rows L2 RZ
namespace Z
variable {X : Cx} {Γ : Gm} {B : Bs} {W : Str → D → Hp → Prop} {z : Fz} {m : M} {σ : L2.St} {H : Hp}
/-! ### repr -/
def shOk (p : PyData) : Bool := p.showable && (decide (p.depth < 60) && (!p.hasDict && decide (p.shown.length ≤ sizeLine)))
def reprD : List D → Option D
  | [d] => match toP d with
    | some p => if shOk p = true then some (.str p.shown) else none
    | none => none
  | _ => none
def rRepr (K : PySem.W.Frag) : List V → Hp → VK → Prop := fun xs H Q => ∃ x p, xs = [x] ∧ Dp K H x p ∧ shOk p = true ∧ Q (.str p.shown) H
theorem call_repr (hg : X.A.guards = some []) (hu : X.A.units + 64 < cLine) : CallR X (.builtin "repr") (rRepr X.K) := by
  intro pins s σ H xs us Q I rv h
  obtain ⟨x, p, rfl, hd, hs, q⟩ := h
  simp only [shOk, Bool.and_eq_true, decide_eq_true_eq, Bool.not_eq_true'] at hs
  obtain ⟨s1, s2, s3, s4⟩ := hs
  cases rv with
  | cons r1 r2 =>
    cases r2
    rename_i u
    obtain ⟨as, r⟩ := Dp.reads I p x u hd r1
    have fin : ∀ h' t tk, (∀ b o, s.heap.get? b = some o → h'.get? b = some o) → EP X pins σ Q (.str p.shown t) { s with heap := h', toks := tk } := fun h' t tk hk => ⟨.str p.shown, H, I.kept hk, ⟨t, rfl⟩, q⟩
    cases hd with
    | non => cases r1; exact P.repr_of_none (fin _ _ _ fun _ _ e => e)
    | bl b => cases r1; exact P.repr_of_bool (fin _ _ _ fun _ _ e => e)
    | int i =>
      obtain ⟨t, rfl⟩ := r1
      exact P.repr_of_int (by simpa [PyData.showable] using s1) (fin _ _ _ fun _ _ e => e)
    | str y =>
      obtain ⟨t, rfl⟩ := r1
      exact P.repr_of_str (fin _ _ _ fun _ _ e => e) s4
    | lst h1 h2 =>
      cases r1
      exact repr_of_reads' r s1 (PyData.noDict_hsm s3) hg (by omega) (fun _ _ e => e) fin s4
    | tup h1 h2 =>
      cases r1
      exact repr_of_reads' r s1 (PyData.noDict_hsm s3) hg (by omega) (fun _ _ e => e) fin s4
theorem cz_repr : CallZ Γ B (rRepr Γ.K) reprD := by
  intro z m σ H ds c xs Q rl rd hc q
  unfold reprD at hc
  split at hc
  · split at hc
    · rename_i d p hp
      split at hc
      · rename_i hs
        cases hc
        obtain ⟨v, rfl, h⟩ := rd.one
        exact ⟨v, p, rfl, Rep.dp rl.rf.sub _ _ _ h hp, hs, q z _ H (Ext.refl _) rl (Rep.str.mpr rfl)⟩
      · cases hc
    · cases hc
  · cases hc
end Z

set_option Elab.async false
set_option linter.all false
set_option maxRecDepth 100000
set_option maxHeartbeats 2000000
/-! Z10: the law's own call -/
namespace Z
open PySem PySem.Spec PyProof.Rows L2 RZ
section
variable {P : Program} {w : World} {K : PySem.W.Frag} {mg mb : Str → Option Value} {k : Nat} {fa a : Addr} {fd : FuncData} {x : Str} {sp : Sp} {t : Shared} {us : List Value} {ns : List Int}
abbrev Done (t : Shared) (r : Result) (s' : Shared) : Prop := r = .ok (.ret (.bool true)) ∧ OldK t.heap s'.heap ∧ s'.os = t.os ∧ AllBare s'.gens
theorem callG0 {H : Hp} (KX : K.In t.heap) (hns : t.heap.Ns mainGlobals mg) (hb : t.heap.Ns builtinsNs mb) (hbb : ∀ x : Str, x ≠ "__name__" → mb x = bootBuiltins x) (hlim : t.heap.NoLimit) (hg : t.gens = #[])
    (ha : t.heap.get? a = some { cls := .type "list", data := .seq us.toArray }) (hr : Room k callerA) (F : ∀ base : Heap, K.In base → base.Ns mainGlobals mg → FnG P w K mg base k fa fd [x] sp) (hbind : ∀ (s : Shared) (u : Value), BindsTo s fd ⟨[u], []⟩ [(x, u)])
    (hO : L2.Only H) (hok : HOk P w H t.heap) (hA : ∀ b, H b ≠ none → b = a) (hK : H a ≠ none → K.lookup a = none) (hsp : sp [.ref a] H (fun v _ => v = .bl true) fun _ _ _ => False) :
    codeAny (model P w) callerA (.call (.ref fa) ⟨[.ref a], []⟩) (Done t) t := by
  have dn : ∀ b, b ≠ a → H b = none := fun b n => Classical.byContradiction fun z => n (hA b z)
  have nsK : ∀ (b : Addr) (m : Str → Option Value), t.heap.Ns b m → (hidT t.heap H).Ns b m := fun b m ⟨o, es, ep, e, d, r⟩ => by
    refine ⟨o, es, ep, hidT_get e (dn b fun z => ?_), d, r⟩
    rw [z, ha] at e
    cases e
    cases d
  have kin : K.In (hidT t.heap H) := fun b o e => hidT_get (KX b o e) (Classical.byContradiction fun z => by
    have z2 := hA b z
    subst z2
    rw [hK z] at e
    cases e)
  have md : Mod K mg (hidT t.heap H) := ⟨kin, nsK _ _ hns, ⟨mb, nsK _ _ hb, hbb⟩, hlim.elim fun mc h => ⟨mc, nsK _ _ h.1, h.2⟩⟩
  have nofr : ∀ b : Addr, b ∉ frs [] := fun b h => nomatch (show b ∈ ([] : List Addr) from h)
  refine codeAny_mono ((F _ kin (nsK _ _ hns)).run callerA [] t H ⟨[.ref a], []⟩ [.ref a] [.ref a] _ _ rfl hr ⟨rfl, md, fun b o e => of_hidT e, Nat.le_of_eq (hidT_size _ _), trivial, fun b h => (nofr b h).elim, hok, .of_eq hg⟩ (hbind t (.ref a)) (.cons rfl .nil) hsp) fun r s' h => ?_
  match r, h with
  | .error e, h =>
    obtain ⟨_, _, _, _, _, _, _, _, _, _, _, _, _, z⟩ := h
  | .ok (.ret u), h =>
    obtain ⟨v, H', os, bare, un, hok', rv, q⟩ := h
    have qv : v = .bl true := q
    subst qv
    have ru : u = Value.bool true := rv
    subst ru
    refine ⟨rfl, OldK.of_keep fun b o e => ?_, os, bare⟩
    rcases hO b with z | ⟨ob, xs, z⟩
    · exact un.keep b o e z (nofr b) (List.not_mem_nil)
    · have e1 := (hok b _ z).1
      rw [e] at e1
      cases e1
      exact (hok' b _ (un.frzs b _ _ z)).1
theorem callG (KX : K.In t.heap) (hns : t.heap.Ns mainGlobals mg) (hb : t.heap.Ns builtinsNs mb) (hbb : ∀ x : Str, x ≠ "__name__" → mb x = bootBuiltins x) (hlim : t.heap.NoLimit) (hg : t.gens = #[])
    (ha : t.heap.get? a = some { cls := .type "list", data := .seq us.toArray }) (hi : IntsAre us ns) (hl : ns.length ≤ sizeLine) (hr : Room k callerA) (F : ∀ base : Heap, K.In base → base.Ns mainGlobals mg → FnG P w K mg base k fa fd [x] sp) (hbind : ∀ (s : Shared) (u : Value), BindsTo s fd ⟨[u], []⟩ [(x, u)])
    (hsp : ∀ H : Hp, L2.Only H → SqL K H a (ns.map V.int) → sp [.ref a] H (fun v _ => v = .bl true) fun _ _ _ => False) :
    codeAny (model P w) callerA (.call (.ref fa) ⟨[.ref a], []⟩) (Done t) t := by
  have rv := vals_ints hi
  cases hk : K.lookup a with
  | some o =>
    have e := KX a o hk
    rw [ha] at e
    cases e
    have hS : SqL K (fun _ => none) a (ns.map V.int) := .inr ⟨_, us.toArray, _, hk, rfl, rfl, rfl, by rw [List.size_toArray, hi.length]; exact hl, by simpa using rv⟩
    have hO : L2.Only (fun _ => none) := fun _ => .inl rfl
    exact callG0 (H := fun _ => none) KX hns hb hbb hlim hg ha hr F hbind hO (fun b u z => nomatch z) (fun b z => (z rfl).elim) (fun z => (z rfl).elim) (hsp _ hO hS)
  | none =>
    have h1 : ∀ b, b = a → upd (fun _ => none) a (.frz { cls := .type "list", data := .seq us.toArray } (.lst (ns.map V.int))) b = some (.frz { cls := .type "list", data := .seq us.toArray } (.lst (ns.map V.int))) := fun b e => by rw [e, upd_same]
    have h2 : ∀ b, b ≠ a → upd (fun _ => none) a (.frz { cls := .type "list", data := .seq us.toArray } (.lst (ns.map V.int))) b = none := fun b e => upd_ne e
    have hO : L2.Only (upd (fun _ => none) a (.frz { cls := .type "list", data := .seq us.toArray } (.lst (ns.map V.int)))) := fun b => (Classical.em (b = a)).elim (fun e => .inr ⟨_, _, h1 b e⟩) fun e => .inl (h2 b e)
    refine callG0 KX hns hb hbb hlim hg ha hr F hbind hO (fun b u z => ?_) (fun b z => Classical.byContradiction fun e => z (h2 b e)) (fun _ => hk) (hsp _ hO (.inl (.inr ⟨_, h1 a rfl⟩)))
    by_cases e : b = a
    · rw [h1 b e] at z
      cases z
      subst e
      exact ⟨ha, by rw [List.length_map]; exact hl, us, _, rv, ha⟩
    · rw [h2 b e] at z
      cases z
end
/-- a law as a function of data: at every script of at most n numbers it answers True -/
def Right (φ : Fn) (n : Nat) : Prop := ∀ ns : List Int, ns.length ≤ n → ∃ S, φ [.scr ns] [] = .ok (.bl true) S
theorem spZ_of {Γ : Gm} {φ : Fn} {n : Nat} (h : Right φ n) {H : Hp} {a : Addr} {ns : List Int} (hn : ns.length ≤ n) (hO : L2.Only H) (hS : SqL Γ.K H a (ns.map V.int)) : spZ Γ 1 φ [.ref a] H (fun v _ => v = .bl true) fun _ _ _ => False := by
  obtain ⟨S, e⟩ := h ns hn
  refine ⟨rfl, ⟨H, []⟩, [.scr ns], [], ⟨fun a o e => e, rfl, fun n xs b h => ?_, fun b hb => (nomatch (show b ∈ ([] : List Addr) from hb)), List.Pairwise.nil⟩, ?_, ?_⟩
  · cases h
  · simp only [RepL]
    exact ⟨_, _, rfl, Rep.scr.mpr ⟨a, rfl, hS⟩, rfl⟩
  · rw [e]
    exact fun z' v H' _ _ r => Rep.bl.mp r
theorem walkG {l : PySem.W.OpenLaw} {n k : Nat} {q : Program} {loose : List Str} {XP : (Str → Option Value) → Heap → Prop} {YP : World → Heap → Prop} {d : DefRec} {x : Str} {φ : Fn}
    (hn : l.most = some n) (hn2 : n ≤ sizeLine) (hdf : d.params.defaults = []) (hr : Room k callerA) (hφ : Right φ n)
    (F : ∀ (w : World) (mg : Str → Option Value) (fa : Addr) (h : Heap), YP w h → h.Ns mainGlobals mg → mg d.name = some (.ref fa) →
      ∃ (Γ : Gm) (fd : FuncData), Γ.K.In h ∧ (∀ (s : Shared) (u : Value), BindsTo s fd ⟨[u], []⟩ [(x, u)]) ∧
        ∀ base : Heap, Γ.K.In base → base.Ns mainGlobals mg → FnG l.prog w Γ.K mg base k fa fd [x] (spZ Γ 1 φ)) :
    PySem.W.WalkO q loose XP YP l.row.toRowW d [] (fun f vs => PySem.call f vs) := by
  refine Att.attach_call hn hdf fun w s0 t mg mb fa o pm cd doc a vs ns G Y ho hd hcd hmg hobj hints hlen hg => ?_
  obtain ⟨Γ, fd, KX, hb, hF⟩ := F w mg fa _ Y G.T.g hmg
  exact callG KX G.T.g G.T.b G.T.builtins G.T.nolimit hg hobj hints (Nat.le_trans hlen hn2) hr hF hb fun H hO hS => spZ_of hφ hlen hO hS
end Z

set_option Elab.async false
set_option linter.all false
set_option maxRecDepth 100000
set_option maxHeartbeats 2000000
/-! Z11: the rules as the printer uses them; what the head tells -/
namespace Z
open PySem PySem.Spec PyProof.Rows L2 RZ

/-! ### the module's data -/
mutual
def repB (K : PySem.W.Frag) : D → Value → Bool
  | .non, .none => true
  | .bl b, .bool c => b == c
  | .int i, .int j _ => decide (i = j)
  | .str x, .str y _ => decide (x = y)
  | .tup ds, .ref a => (match K.lookup a with
    | some ⟨.type c, _, .seq its _, _⟩ => decide (c = "tuple") && (decide (its.size ≤ sizeLine) && repBL K ds its.toList)
    | _ => false)
  | _, _ => false
def repBL (K : PySem.W.Frag) : List D → List Value → Bool
  | [], [] => true
  | d :: ds, u :: us => repB K d u && repBL K ds us
  | _, _ => false
end
mutual
theorem repB_ok {Γ : Gm} : ∀ (d : D) (u : Value), repB Γ.K d u = true → ∃ v, RelV v u ∧ ∀ z, Rep Γ z d v
  | .non, .none, _ => ⟨.non, rfl, fun z => Rep.non.mpr rfl⟩
  | .bl b, .bool c, h => ⟨.bl b, by simp only [repB, beq_iff_eq] at h; subst h; rfl, fun z => Rep.bl.mpr rfl⟩
  | .int i, .int j t, h => ⟨.int i, by simp only [repB, decide_eq_true_eq] at h; subst h; exact ⟨t, rfl⟩, fun z => Rep.int.mpr rfl⟩
  | .str i, .str j t, h => ⟨.str i, by simp only [repB, decide_eq_true_eq] at h; subst h; exact ⟨t, rfl⟩, fun z => Rep.str.mpr rfl⟩
  | .tup ds, .ref a, h => by
    simp only [repB] at h
    split at h
    · rename_i c dd its n sl hk
      simp only [Bool.and_eq_true, decide_eq_true_eq] at h
      obtain ⟨h1, h2, h3⟩ := h
      obtain ⟨vs, r1, r2⟩ := repBL_ok ds its.toList h3
      exact ⟨.ref a, rfl, fun z => Rep.tup.mpr ⟨a, vs, rfl, .inr ⟨_, its, n, hk, congrArg Value.type h1, rfl, h2, r1⟩, r2 z⟩⟩
    · cases h
theorem repBL_ok {Γ : Gm} : ∀ (ds : List D) (us : List Value), repBL Γ.K ds us = true → ∃ vs, Vals vs us ∧ ∀ z, RepL Γ z ds vs
  | [], [], _ => ⟨[], .nil, fun z => RepL.nil⟩
  | d :: ds, u :: us, h => by
    simp only [repBL, Bool.and_eq_true] at h
    obtain ⟨v, r1, r2⟩ := repB_ok d u h.1
    obtain ⟨vs, r3, r4⟩ := repBL_ok ds us h.2
    exact ⟨v :: vs, .cons r1 r3, fun z => .cons (r2 z) (r4 z)⟩
end
/-- the module's name x stands for d -/
def conZ (K : PySem.W.Frag) (q : Str × D) : Bool := match PySem.W.nsIn K mainGlobals q.1 with
  | some (some u) => repB K q.2 u
  | _ => false
def Gc (Γ : Gm) (mg : Str → Option Value) (x : Str) (d : D) : Prop := ∃ u v, mg x = some u ∧ RelV v u ∧ ∀ z, Rep Γ z d v
theorem conZ_ok {Γ : Gm} {h : Heap} {mg : Str → Option Value} (X : Γ.K.In h) (G : h.Ns mainGlobals mg) {x : Str} {d : D} (c : conZ Γ.K (x, d) = true) : Gc Γ mg x d := by
  unfold conZ at c
  split at c
  · rename_i u e
    obtain ⟨v, r1, r2⟩ := repB_ok d u c
    exact ⟨u, v, PySem.W.mg_of X G e, r1, r2⟩
  · cases c
/-! ### the head's hook: facts, defs, data -/
abbrev AlZ : Type := He.AlD × Bool
def obsZ (n : Nat) (fa : List He.Fa) (fn : List He.DefD) (cs : List (Str × D)) (g : Addr → Option Obj) : AlZ := (He.obsD fa fn (He.frG g (He.asD g n)), cs.all (conZ (He.frG g (He.asD g n))))
structure SaysZ (fa : List He.Fa) (fn : List He.DefD) (cs : List (Str × D)) (K : PySem.W.Frag) : Prop where
  d : He.SaysD fa fn K
  c : cs.all (conZ K) = true
def hookZ (n : Nat) (fa : List He.Fa) (fn : List He.DefD) (cs : List (Str × D)) : PySem.W.Hook where
  α := AlZ
  obs := fun s => obsZ n fa fn cs s.heap.get?
  val := fun _ => (He.valD fn, true)
  says := fun _ h => ∃ K : PySem.W.Frag, K.In h ∧ SaysZ fa fn cs K
  of := fun _ _ e => ⟨_, He.frG_in, ⟨congrArg (fun z : AlZ => z.1) e, congrArg (fun z : AlZ => z.2) e⟩⟩
  keeps := fun _ _ _ ⟨K, hK, c⟩ k => ⟨K, PySem.W.Frag.In.keeps hK k, c⟩
theorem obsZ_eq {n : Nat} {fa : List He.Fa} {fn : List He.DefD} {cs : List (Str × D)} {g : Addr → Option Obj} {s : Shared} (h : ∀ a, g a = s.heap.get? a) : obsZ n fa fn cs g = (hookZ n fa fn cs).obs s := by
  have e : g = s.heap.get? := funext h
  rw [e] <;> rfl
theorem SaysZ.con {fa : List He.Fa} {fn : List He.DefD} {cs : List (Str × D)} {Γ : Gm} {h : Heap} {mg : Str → Option Value} (c : SaysZ fa fn cs Γ.K) (X : Γ.K.In h) (G : h.Ns mainGlobals mg) {x : Str} {d : D} (i : Nat) (hi : cs[i]? = some (x, d)) : Gc Γ mg x d :=
  conZ_ok X G (List.all_eq_true.mp c.c (x, d) (List.mem_of_getElem? hi))
/-- names of the builtins that no module binds -/
abbrev bns : List Str := ["len", "isinstance", "int", "bool", "tuple", "str", "list", "range", "abs", "max", "min", "all", "any", "zip", "repr", "sum", "sorted", "set", "enumerate", "dict"]
def Bn (mg : Str → Option Value) : Prop := ∀ x ∈ bns, mg x = none

/-! ### a def that is called -/
structure Cal (Γ : Gm) (P : Program) (w : World) (mg : Str → Option Value) (base : Heap) (x : Str) (k n : Nat) (dfl : List D) (φ : Fn) : Prop where
  ex : ∃ f fd ps, FnG P w Γ.K mg base k f fd ps (spZ Γ n φ) ∧ mg x = some (.ref f) ∧ PySem.W.keepIn Γ.K (.ref f) = true ∧ ∀ j, j ≤ dfl.length → ∃ ds dvs, Binds Γ.K fd ps ds ∧ Vals dvs ds ∧ ∀ z, RepL Γ z (dfl.drop j) dvs

section
variable {Γ : Gm} {B : Bs} {W : WX} {X : Cx} {σ : L2.St} {H : Hp} {z : Fz} {m : M} {k : Nat} {φ : Fn} {x : Str} {p pos : Pos} {e a b : Expr} {es : List Expr} {fs : DenL} {f g h : Den} {dfl : List D}
/-- arguments: as many as written -/
structure PAL (X : Cx) (Γ : Gm) (B : Bs) (W : WX) (es : List Expr) (fs : DenL) : Prop where
  pa : PA X es (tA Γ B W fs)
  len : ∀ m ds m1, fs m = .ok ds m1 → ds.length = es.length
theorem an : PAL X Γ B W [] znil := ⟨z_anil, fun m ds m1 e => by cases e; rfl⟩
theorem ac (ha : PE X e (tE Γ B W f)) (hr : PAL X Γ B W es fs) (hs : starEach (e :: es) X.env = (false, eval e X.env) :: starEach es X.env := by rfl) : PAL X Γ B W (e :: es) (zcons f fs) := by
  refine ⟨z_acons ha hr.pa hs, fun m ds m1 q => ?_⟩
  unfold zcons at q
  cases q1 : f m with
  | bad => rw [q1] at q; cases q
  | exc c d m2 => rw [q1] at q; cases q
  | ok d m2 =>
    rw [q1] at q
    have q : (fs m2).bind (fun ds m2 => R.ok (d :: ds) m2) = .ok ds m1 := q
    cases q2 : fs m2 with
    | bad => rw [q2] at q; cases q
    | exc c d m2 => rw [q2] at q; cases q
    | ok ds2 m3 =>
      rw [q2] at q
      cases q
      rw [List.length_cons, List.length_cons, hr.len _ _ _ q2]
theorem qcall {k' n : Nat} {dd : List D} (C : Cal Γ X.prog X.w X.mg X.base x k n dfl φ) (j : Nat) (hr : Room k' X.A) (hk : k ≤ k') (hgd : X.A.guards = some []) (tk : Takes X W) (ha : PAL X Γ B W (e :: es) fs) (hK : X.K = Γ.K := by rfl) (hg : Gl X x := by rfl) (hj : j ≤ dfl.length := by decide) (hdd : dfl.drop j = dd := by rfl) (hn : (e :: es).length + (dfl.drop j).length = n := by rfl)
    (hdb : (x == ("__debug__" : Str)) = false := by decide) (he : starEach (e :: es) X.env = (false, eval e X.env) :: starEach es X.env := by rfl) (hpl : (backTo pos (starEach es X.env)).any (·.1) = false := by rfl) :
    PE X (.Call (.Name x p) (e :: es) [] pos) (tE Γ B W (zcall φ dd fs)) := by
  subst hdd
  obtain ⟨fa, fd, ps, F, hm, hk2, hb⟩ := C.ex
  obtain ⟨ds, dvs, b1, b2, b3⟩ := hb j hj
  rw [← hK] at F hk2 b1
  exact z_call F hgd (hr.mono hk) hg hm hk2 b1 b2 b3 tk ha.pa hn hdb he hpl ha.len
theorem qcall0 {k' n : Nat} {dd : List D} (C : Cal Γ X.prog X.w X.mg X.base x k n dfl φ) (j : Nat) (hr : Room k' X.A) (hk : k ≤ k') (hgd : X.A.guards = some []) (tk : Takes X W) (hK : X.K = Γ.K := by rfl) (hg : Gl X x := by rfl) (hj : j ≤ dfl.length := by decide) (hdd : dfl.drop j = dd := by rfl) (hn : (dfl.drop j).length = n := by rfl)
    (hdb : (x == ("__debug__" : Str)) = false := by decide) : PE X (.Call (.Name x p) [] [] pos) (tE Γ B W (zcall φ dd znil)) := by
  subst hdd
  obtain ⟨fa, fd, ps, F, hm, hk2, hb⟩ := C.ex
  obtain ⟨ds, dvs, b1, b2, b3⟩ := hb j hj
  rw [← hK] at F hk2 b1
  exact z_call0 F hgd (hr.mono hk) hg hm hk2 b1 b2 b3 tk hn hdb
/-! ### rules with their side conditions -/
def visB (sc : Scope) (x : Str) : Bool := match sc.names.lookup x with
  | some .local => true
  | some .cell => true
  | some .free => true
  | _ => false
theorem visB_ok {sc : Scope} (h : visB sc x = true) : Vis sc x := by
  unfold visB at h
  unfold Vis
  split at h
  · exact .inl (by assumption)
  · exact .inr (.inl (by assumption))
  · exact .inr (.inr (by assumption))
  · cases h
def locB (sc : Scope) (x : Str) : Bool := match sc.names.lookup x with
  | some .local => true
  | some .cell => true
  | _ => false
theorem locB_ok {sc : Scope} (h : locB sc x = true) : L2.Loc sc x := by
  unfold locB at h
  unfold L2.Loc
  split at h
  · exact .inl (by assumption)
  · exact .inr (by assumption)
  · cases h
theorem qv (i : Nat) (hN : X.N[i]? = some x := by rfl) (hv : visB X.env.scope x = true := by rfl) (hd : (x == ("__debug__" : Str)) = false := by decide) (hcd : (x == ("__classdict__" : Str)) = false := by decide) : PE X (.Name x pos) (tE Γ B W (zvar i)) := z_var hN (visB_ok hv) hd hcd
theorem qg {d : D} (C : Gc Γ X.mg x d) (hg : Gl X x := by rfl) (hdb : (x == ("__debug__" : Str)) = false := by decide) : PE X (.Name x pos) (tE Γ B W (zk d)) := by
  obtain ⟨u, v, h1, h2, h3⟩ := C
  exact z_glob hg h1 h2 h3 hdb
section
variable (ha : PE X a (tE Γ B W f)) (hb : PE X b (tE Γ B W g))
include ha hb
theorem qadd (hK : X.K = Γ.K := by rfl) : PE X (.BinOp a .Add b pos) (tE Γ B W (zop addD f g)) := z_op op_addZ (hK ▸ oz_add) ha hb
theorem qsub : PE X (.BinOp a .Sub b pos) (tE Γ B W (zop subD f g)) := z_op op_sub oz_sub ha hb
theorem qmul (hK : X.K = Γ.K := by rfl) : PE X (.BinOp a .Mult b pos) (tE Γ B W (zop mulZ f g)) := z_op op_mulZ (hK ▸ oz_mulZ) ha hb
theorem qfdiv : PE X (.BinOp a .FloorDiv b pos) (tE Γ B W (zop fdivD f g)) := z_op op_fdivZ oz_fdiv ha hb
theorem qmod : PE X (.BinOp a .Mod b pos) (tE Γ B W (zop modD f g)) := z_op op_modN oz_mod ha hb
theorem qpow : PE X (.BinOp a .Pow b pos) (tE Γ B W (zop powD f g)) := z_op op_powZ oz_pow ha hb
end
/-- one comparison -/
structure CmZ (X : Cx) (Γ : Gm) (op : CmpOp) (k : D → D → Option D) : Prop where
  ex : ∃ r, OpR X (compareOp op) r ∧ ∀ B, OpZ Γ B r k
theorem clt : CmZ X Γ .Lt ltD := ⟨_, op_lt, fun _ => oz_cmpI⟩
theorem cle : CmZ X Γ .LtE leD := ⟨_, op_le, fun _ => oz_cmpI⟩
theorem cgt : CmZ X Γ .Gt gtD := ⟨_, op_gt, fun _ => oz_cmpI⟩
theorem cge : CmZ X Γ .GtE geD := ⟨_, op_ge, fun _ => oz_cmpI⟩
theorem cis : CmZ X Γ .Is isND := ⟨_, op_isN, fun _ => oz_isN⟩
theorem cisnt : CmZ X Γ .IsNot isNotND := ⟨_, op_notN, fun _ => oz_notN⟩
theorem ceq (hr : Room k X.A) (hK : X.K = Γ.K := by rfl) : CmZ X Γ .Eq eqD := ⟨_, op_eqZ (by have := hr.un; omega), fun _ => hK ▸ oz_eq⟩
theorem cne (hr : Room k X.A) (hK : X.K = Γ.K := by rfl) : CmZ X Γ .NotEq neD := ⟨_, op_neZ (by have := hr.un; omega), fun _ => hK ▸ oz_ne⟩
theorem qcmp {op : CmpOp} {k : D → D → Option D} (C : CmZ X Γ op k) (ha : PE X a (tE Γ B W f)) (hb : PE X b (tE Γ B W g)) (hn : behindInMarks op b = false := by rfl) : PE X (.Compare a [op] [b] pos) (tE Γ B W (zop k f g)) := by
  obtain ⟨r, h1, h2⟩ := C.ex
  exact z_cmp h1 (h2 B) ha hb hn
theorem tcmp {op : CmpOp} {k : D → D → Option D} (C : CmZ X Γ op k) (ha : PE X a (tE Γ B W f)) (hb : PE X b (tE Γ B W g)) (hn : behindInMarks op b = false := by rfl) : PT X (.Compare a [op] [b] pos) (tT Γ B W (toB (zop k f g))) := by
  obtain ⟨r, h1, h2⟩ := C.ex
  exact z_cmpT h1 (h2 B) ha hb hn
theorem qchain {op op' : CmpOp} {k k' : D → D → Option D} {c : Expr} (C : CmZ X Γ op k) (C' : CmZ X Γ op' k') (ha : PE X a (tE Γ B W f)) (hb : PE X b (tE Γ B W g)) (hc : PE X c (tE Γ B W h)) (hm : lastMarks [op, op'] [b, c] = false := by with_unfolding_all rfl) : PE X (.Compare a [op, op'] [b, c] pos) (tE Γ B W (zchain k k' f g h)) := by
  obtain ⟨r, h1, h2⟩ := C.ex
  obtain ⟨r', h1', h2'⟩ := C'.ex
  exact z_chain h1 h1' (h2 B) (h2' B) ha hb hc hm
theorem tchain {op op' : CmpOp} {k k' : D → D → Option D} {c : Expr} (C : CmZ X Γ op k) (C' : CmZ X Γ op' k') (ha : PE X a (tE Γ B W f)) (hb : PE X b (tE Γ B W g)) (hc : PE X c (tE Γ B W h)) (hm : lastMarks [op, op'] [b, c] = false := by with_unfolding_all rfl) : PT X (.Compare a [op, op'] [b, c] pos) (tT Γ B W (toB (zchain k k' f g h))) := by
  obtain ⟨r, h1, h2⟩ := C.ex
  obtain ⟨r', h1', h2'⟩ := C'.ex
  exact z_chainT h1 h1' (h2 B) (h2' B) ha hb hc hm
theorem tval (ha : PE X a (tE Γ B W f)) (he : ∀ whole, isTrue a X.env whole = (do let v ← whole; standAt a.pos; holding [v] (truthy v)) := by intro _; rfl) : PT X a (tT Γ B W (toB f)) := z_test ha he
theorem qand1 (ha : PE X a (tE Γ B W f)) : PE X (.BoolOp .And [a] pos) (tE Γ B W f) := pe_one ha
theorem qor1 (ha : PE X a (tE Γ B W f)) : PE X (.BoolOp .Or [a] pos) (tE Γ B W f) := pe_one ha
/-! calls of builtins -/
theorem qidx (ha : PE X a (tE Γ B W f)) (hb : PE X b (tE Γ B W g)) (hK : X.K = Γ.K := by rfl) (hs : PlainIx b := by exact fun _ _ => rfl) : PE X (.Subscript a b pos) (tE Γ B W (zidx f g)) := z_idxS hK ha hb hs
theorem qslice {lo hi : Option Expr} {fl fh : DenO} {p2 : Pos} (ha : PE X e (tE Γ B W f)) (hl : PO X lo (tO Γ B W fl)) (hh : PO X hi (tO Γ B W fh)) (hK : X.K = Γ.K := by rfl) : PE X (.Subscript e (.Slice lo hi none p2) pos) (tE Γ B W (zslice f fl fh)) := z_slice hK ha hl hh
/-- a builtin as a function of data -/
structure BlZ (X : Cx) (Γ : Gm) (x : Str) (g : List D → Option D) : Prop where
  ex : (∃ id r, CallR X (.builtin id) r ∧ bootBuiltins x = some (.builtin id) ∧ ∀ B, CallZ Γ B r g) ∨ (∃ T r, CallR X (.type T) r ∧ bootBuiltins x = some (.type T) ∧ ∀ B, CallZ Γ B r g)
theorem qblt {g : List D → Option D} (C : BlZ X Γ x g) (M : Bn X.mg) (ha : PAL X Γ B W (e :: es) fs) (hx : x ∈ bns := by decide) (hg : Gl X x := by rfl) (hn : x ≠ "__name__" := by decide) (hdb : (x == ("__debug__" : Str)) = false := by decide)
    (he : starEach (e :: es) X.env = (false, eval e X.env) :: starEach es X.env := by rfl) (hpl : (backTo pos (starEach es X.env)).any (·.1) = false := by rfl) : PE X (.Call (.Name x p) (e :: es) [] pos) (tE Γ B W (zcb g fs)) := by
  rcases C.ex with ⟨id, r, h1, h2, h3⟩ | ⟨id, r, h1, h2, h3⟩
  · exact z_callB h1 (h3 B) hg (M x hx) h2 ha.pa hn hdb he hpl
  · exact z_callTy h1 (h3 B) hg (M x hx) h2 ha.pa hn hdb he hpl
theorem blen (hK : X.K = Γ.K := by rfl) : BlZ X Γ "len" lenD := ⟨.inl ⟨_, _, cr_lenZ, by rfl, fun _ => hK ▸ cz_len⟩⟩
theorem babs : BlZ X Γ "abs" absD := ⟨.inl ⟨_, _, call_abs, by rfl, fun _ => cz_abs⟩⟩
theorem bint : BlZ X Γ "int" intD := ⟨.inr ⟨_, _, call_int1, by rfl, fun _ => cz_int⟩⟩
theorem bmax (hc : X.calm = true := by rfl) : BlZ X Γ "max" maxD := ⟨.inl ⟨_, _, call_max2 hc, by rfl, fun _ => cz_max⟩⟩
theorem bmin (hc : X.calm = true := by rfl) : BlZ X Γ "min" minD := ⟨.inl ⟨_, _, call_min2 hc, by rfl, fun _ => cz_min⟩⟩
theorem btuple (hK : X.K = Γ.K := by rfl) : BlZ X Γ "tuple" tupleD := ⟨.inr ⟨_, _, call_tuple_of, by rfl, fun _ => hK ▸ cz_tuple⟩⟩
theorem ball (hK : X.K = Γ.K := by rfl) (hc : X.calm = true := by rfl) : BlZ X Γ "all" allD := ⟨.inl ⟨_, _, cr_all hc, by rfl, fun _ => hK ▸ cz_all⟩⟩
theorem bany (hK : X.K = Γ.K := by rfl) (hc : X.calm = true := by rfl) : BlZ X Γ "any" anyD := ⟨.inl ⟨_, _, cr_any hc, by rfl, fun _ => hK ▸ cz_any⟩⟩
theorem brepr (hr : Room k X.A) (hgd : X.A.guards = some []) (hK : X.K = Γ.K := by rfl) : BlZ X Γ "repr" reprD := ⟨.inl ⟨_, _, call_repr hgd (by have := hr.un; omega), by rfl, fun _ => hK ▸ cz_repr⟩⟩
theorem qisi {T : String} {y : Str} {p2 : Pos} (M : Bn X.mg) (ha : PE X e (tE Γ B W f)) (hb2 : bootBuiltins y = some (.type T) := by rfl) (hy : y ∈ bns := by decide) (hK : X.K = Γ.K := by rfl) (hg : Gl X "isinstance" := by rfl) (hg2 : Gl X y := by rfl) (hn2 : y ≠ "__name__" := by decide) (hd2 : (y == ("__debug__" : Str)) = false := by decide)
    (he : starEach [e, .Name y p2] X.env = (false, eval e X.env) :: starEach [.Name y p2] X.env := by rfl) (he2 : starEach [.Name y p2] X.env = (false, eval (.Name y p2) X.env) :: starEach [] X.env := by rfl) (hpl : (backTo pos (starEach [.Name y p2] X.env)).any (·.1) = false := by rfl) :
    PE X (.Call (.Name "isinstance" p) [e, .Name y p2] [] pos) (tE Γ B W (zisi T f)) := z_isi hK hg (M _ (by decide)) (by rfl) hg2 (M _ hy) hb2 hn2 hd2 ha he he2 hpl
theorem flist (M : Bn X.mg) (ha : PAL X Γ B W [e] fs) (hK : X.K = Γ.K := by rfl) (hg : Gl X "list" := by rfl) (he : starEach [e] X.env = (false, eval e X.env) :: starEach [] X.env := by rfl) (hpl : (backTo pos (starEach [] X.env)).any (·.1) = false := by rfl) : PE X (.Call (.Name "list" p) [e] [] pos) (tF Γ B W (zlistF fs)) :=
  z_listF hK hg (M _ (by decide)) (by rfl) ha.pa he hpl
theorem flistRg {p2 pos2 : Pos} (M : Bn X.mg) (ha : PE X e (tE Γ B W f)) (hc : X.calm = true := by rfl) (hg : Gl X "list" := by rfl) (hg2 : Gl X "range" := by rfl) (na : starEach [e] X.env = (false, eval e X.env) :: starEach [] X.env := by rfl)
    (na2 : starEach [.Call (.Name "range" p2) [e] [] pos2] X.env = (false, eval (.Call (.Name "range" p2) [e] [] pos2) X.env) :: starEach [] X.env := by rfl) : PE X (.Call (.Name "list" p) [.Call (.Name "range" p2) [e] [] pos2] [] pos) (tF Γ B W (zlistRg f)) :=
  z_listRg hc hg (M _ (by decide)) hg2 (M _ (by decide)) ha na na2
theorem qlenP (i : Nat) {y : Str} {py : Pos} (M : Bn X.mg) (hK : X.K = Γ.K := by rfl) (hN : X.N[i]? = some y := by rfl) (hv : visB X.env.scope y = true := by rfl) (hd : (y == ("__debug__" : Str)) = false := by decide) (hcd : (y == ("__classdict__" : Str)) = false := by decide)
    (hg : Gl X "len" := by rfl) (he : starEach [.Name y py] X.env = (false, eval (.Name y py) X.env) :: starEach [] X.env := by rfl) (hpl : (backTo pos (starEach [] X.env)).any (·.1) = false := by rfl) :
    PE X (.Call (.Name "len" p) [.Name y py] [] pos) (tE Γ B W (zlenP i)) := z_lenP hK hN (visB_ok hv) hd hcd hg (M _ (by decide)) (by rfl) he hpl
theorem flst (ha : PAL X Γ B W es fs) : PE X (.List es pos) (tF Γ B W (zlstF fs)) := z_lstF ha.pa
theorem qtup {x1 : Nat} (ha : PAL X Γ B W es fs) : PE X (.Tuple es x1 pos) (tE Γ B W (ztup fs)) := z_tup ha.pa
/-! comprehensions -/
theorem fcomp {tg iter elt : Expr} {ifs : List Expr} {scope : Scope} {own : List (Str × Nat)} {src : DenL} {t : Tg} {c : M → R Bool} {el : Den} (hN : X.N.Nodup) (hi : PI X tg iter (tI Γ B W src)) (ok : blkC X.N X.env.scope scope own = true)
    (hg : ∀ (B : Bs) (s : Shared) (H : Hp) (C : Addr) (cl : List (Str × Addr)) (fp : List Addr), PG (X.blk s H scope (compEnvC scope cl C X.env) fp) tg (tG Γ B (own.map (·.2)) t))
    (ht : ∀ (B : Bs) (s : Shared) (H : Hp) (C : Addr) (cl : List (Str × Addr)) (fp : List Addr), PTs (X.blk s H scope (compEnvC scope cl C X.env) fp) ifs (tT Γ B W0 c))
    (he : ∀ (B : Bs) (s : Shared) (H : Hp) (C : Addr) (cl : List (Str × Addr)) (fp : List Addr), PE (X.blk s H scope (compEnvC scope cl C X.env) fp) elt (tE Γ B W0 el)) (hc : X.calm = true := by rfl) (hs : ∀ x, foldedSetIterable iter X.env x = pure x := by intro _; rfl) :
    PE X (.ListComp elt [⟨tg, iter, ifs, 0⟩] scope pos) (tF Γ B W (zcompF src t c el (own.map (·.2)))) := z_compF hc hN hi (blkOk_by ok) hg ht he hs
theorem scomp {tg iter elt : Expr} {ifs : List Expr} {scope : Scope} {own : List (Str × Nat)} {src : DenL} {t : Tg} {c : M → R Bool} {el : Den} {y : Str} {py spos : Pos} (i : Nat) (hN : X.N.Nodup) (hi : PI X tg iter (tI Γ B W src)) (ok : blkC X.N X.env.scope scope own = true)
    (hg : ∀ (B : Bs) (s : Shared) (H : Hp) (C : Addr) (cl : List (Str × Addr)) (fp : List Addr), PG (X.blk s H scope (compEnvC scope cl C X.env) fp) tg (tG Γ B (own.map (·.2)) t))
    (ht : ∀ (B : Bs) (s : Shared) (H : Hp) (C : Addr) (cl : List (Str × Addr)) (fp : List Addr), PTs (X.blk s H scope (compEnvC scope cl C X.env) fp) ifs (tT Γ B W0 c))
    (he : ∀ (B : Bs) (s : Shared) (H : Hp) (C : Addr) (cl : List (Str × Addr)) (fp : List Addr), PE (X.blk s H scope (compEnvC scope cl C X.env) fp) elt (tE Γ B W0 el)) (hy : X.N[i]? = some y := by rfl) (hyl : X.env.scope.names.lookup y = some .local := by rfl) (hc : X.calm = true := by rfl) (hs : ∀ x, foldedSetIterable iter X.env x = pure x := by intro _; rfl)
    (hsw : swapsWith (.ListComp elt [⟨tg, iter, ifs, 0⟩] scope pos) (some (.Name y py)) spos.line X.env = pure true := by rfl) :
    PS X (.Assign [.Name y py] (.ListComp elt [⟨tg, iter, ifs, 0⟩] scope pos) spos) (tAsg (tF Γ B W (zcompF src t c el (own.map (·.2)))) (gName i)) := ps_compF (q := fun _ m => .nx m) (gg := gName i) hc hN hy hyl hsw hi (blkOk_by ok) hg ht he hs
theorem scompZ {i : Nat} {kk : DenL} {st : Stmt} (h : PS X st (tAsg (tF Γ B W kk) (gName i))) : PS X st (tS Γ B W (zasg (frz kk) (gset i))) := PS.imp h fun E σ H hz => setFz_conv hz
theorem scompB {i : Nat} {kk : DenL} {st : Stmt} (h : PS X st (tAsg (tF Γ B W kk) (gName i))) : PS X st (tS Γ B W (zsetB i kk)) := PS.imp h fun E σ H hz => setF_conv hz
theorem tno : PTs X [] (tT Γ B W yes) := ⟨fun pins s σ H Q I ⟨m, z, rl, h⟩ => (pts_nil (X := X)).run pins s σ H Q I (h z true H (Ext.refl _) rl rfl)⟩
theorem tone {c : Expr} {t : M → R Bool} (h : PT X c (tT Γ B W t)) : PTs X [c] (tT Γ B W t) := pts_one h
/-! iterations -/
theorem irange {tg : Expr} (M : Bn X.mg) (ha : PAL X Γ B W [e] fs) (hg : Gl X "range" := by rfl) (hs : starEach [e] X.env = [(false, eval e X.env)] := by rfl) : PI X tg (.Call (.Name "range" p) [e] [] pos) (tI Γ B W (zrange fs)) := i_range hg (M _ (by decide)) ha.pa hs
theorem iseq {tg : Expr} (ha : PE X a (tE Γ B W f)) (hK : X.K = Γ.K := by rfl) : PI X tg a (tI Γ B W (zseqI f)) := i_seq hK ha
/-! targets, stores -/
theorem gname (i : Nat) (hN : X.N.Nodup) (hi : X.N[i]? = some x := by rfl) (hx : locB X.env.scope x = true := by rfl) (hf : X.fn x = true ∨ X.env.scope.names.lookup x = some .local := by first | exact .inl rfl | exact .inr rfl) : PG X (.Name x pos) (tG Γ B [i] (gset i)) := z_gname hN hi (locB_ok hx) hf
theorem gscons {own owns : List Nat} {t : Tg} {ts : Tgs} (h1 : PG X e (tG Γ B own t)) (h2 : PGs X es (tGs Γ B owns ts)) (hs : (assignEach (e :: es) X.env).map (·.2) = assign e X.env :: (assignEach es X.env).map (·.2) := by rfl) : PGs X (e :: es) (tGs Γ B (own ++ owns) (gcons t ts)) := z_gcons h1 h2 hs
theorem gtuple {n : Nat} {own : List Nat} {ts : Tgs} {kk : Nat} (h : PGs X es (tGs Γ B own ts)) (hK : X.K = Γ.K := by rfl) (hc : X.calm = true := by rfl) (hn : (assignEach es X.env).length = n := by rfl) (hst : (assignEach es X.env).findIdx? (·.1) = none := by rfl) : PG X (.Tuple es kk pos) (tG Γ B own (gtup n ts)) := z_gtup hK hc h hn hst
theorem sset {pos' : Pos} (i : Nat) (hN : X.N.Nodup) (he : PE X a (tE Γ B W f)) (hi : X.N[i]? = some x := by rfl) (hx : locB X.env.scope x = true := by rfl) (hs : swapsWith a (some (.Name x pos')) pos.line X.env = pure false := by rfl) (hf : X.fn x = true ∨ X.env.scope.names.lookup x = some .local := by exact .inl rfl) :
    PS X (.Assign [.Name x pos'] a pos) (tS Γ B W (zasg f (gset i))) := z_set hN hi (locB_ok hx) he hs hf
theorem ssetB {pos' : Pos} {kk : DenL} (i : Nat) (hN : X.N.Nodup) (he : PE X a (tF Γ B W kk)) (hi : X.N[i]? = some x := by rfl) (hx : locB X.env.scope x = true := by rfl) (hs : swapsWith a (some (.Name x pos')) pos.line X.env = pure false := by rfl) (hf : X.fn x = true ∨ X.env.scope.names.lookup x = some .local := by exact .inl rfl) :
    PS X (.Assign [.Name x pos'] a pos) (tS Γ B W (zsetB i kk)) := z_setB hN hi (locB_ok hx) he hs hf
theorem sasg {tg : Expr} {own : List Nat} {t : Tg} (he : PE X a (tE Γ B W f)) (hg : PG X tg (tG Γ B own t)) (hs : swapsWithSole [tg] a pos.line X.env = pure false := by rfl) (hw : swappedStores [tg] a X.env = pure none := by rfl) (h1 : (assignEach [tg] X.env).map (·.2) = [assign tg X.env] := by rfl) : PS X (.Assign [tg] a pos) (tS Γ B W (zasg f t)) := z_asg he hg hs hw h1
theorem sexpr (ha : PE X a (tE Γ B W f)) (hs : swapsWith a none pos.line X.env = pure false := by rfl) : PS X (.Expr a pos) (tS Γ B W (zexpr f)) := z_expr ha hs
theorem sbad {st : Stmt} : PS X st (tS Γ B W fun _ => .bad) := ⟨fun pins s σ H D I ⟨m, z, rl, h⟩ => h.elim⟩
theorem sfor {tg iter : Expr} {body : List Stmt} {src : DenL} {own : List Nat} {t : Tg} {fb : DenS} (hp : PassesOwn (model X.prog X.w) X.A X.env X.xe) (hi : PI X tg iter (tI Γ B W src)) (hg : PG X tg (tG Γ B own t)) (hb : PSs X body (tS Γ B W fb)) (hc : X.calm = true := by rfl)
    (hs : ∀ x, foldedSetIterable iter X.env x = pure x := by intro _; rfl) : PS X (.For tg iter body [] pos) (tS Γ B W (zfor src t fb)) := z_for hp hc hi hg hb hs
def slSz : Sl → Nat
  | .val (.int i) => i.natAbs
  | .val (.lst xs) => xs.length
  | .bld xs => xs.length
  | _ => 0
def fuelM (m : M) : Nat := (m.e.map slSz).sum + 2
def zwhile (c : Den) (f : DenS) : DenS := fun m => whileL c f (fuelM m) m
theorem swhile {c : Expr} {body : List Stmt} {fb : DenS} (hp : PassesOwn (model X.prog X.w) X.A X.env X.xe) (hc : PT X c (tT Γ B W (toB h))) (hb : PSs X body (tS Γ B W fb)) : PS X (.While c body [] pos) (tS Γ B W (zwhile h fb)) :=
  ⟨fun pins s σ H D I ⟨m, z, rl, hh⟩ => (z_while (fuelM m) hp hc hb).run pins s σ H D I ⟨m, z, rl, hh⟩⟩
theorem npar {es : List Expr} {ts : List Expr} {is : List Nat} {gs : M → R (List Sl)} {kt k2 : Nat} {pt pt2 : Pos} (ha : PA X es (tAs Γ B W gs)) (hts : PGs X ts (gNames is)) (hK : X.K = Γ.K := by rfl) (hc : X.calm = true := by rfl) (hn : (assignEach ts X.env).length = is.length := by rfl) (hst : (assignEach ts X.env).findIdx? (·.1) = none := by rfl)
    (hs : swapsWithSole [.Tuple ts kt pt] (.Tuple es k2 pt2) pos.line X.env = pure false := by rfl) (hw : swappedStores [.Tuple ts kt pt] (.Tuple es k2 pt2) X.env = pure none := by rfl) (h1 : (assignEach [.Tuple ts kt pt] X.env).map (·.2) = [assign (.Tuple ts kt pt) X.env] := by rfl) (hsm : is.length ≤ 1000 := by decide) :
    PS X (.Assign [.Tuple ts kt pt] (.Tuple es k2 pt2) pos) (tS Γ B W (zpar is gs)) := z_parN hK hc ha hts hn hst hs hw h1 hsm
theorem par2 {u v : Str} {gs : M → R (List Sl)} {px py pt pt2 : Pos} {kt k2 : Nat} (i j : Nat) (hN : X.N.Nodup) (ha : PA X [a, b] (tAs Γ B W gs)) (hc : X.calm = true := by rfl) (hi : X.N[i]? = some u := by rfl) (hj : X.N[j]? = some v := by rfl) (hij : i ≠ j := by decide) (hx : X.env.scope.names.lookup u = some .local := by rfl) (hy : X.env.scope.names.lookup v = some .local := by rfl)
    (hw : swappedStores [.Tuple [.Name u px, .Name v py] kt pt] (.Tuple [a, b] k2 pt2) X.env = pure (some [u, v]) := by rfl) (hs : swapsWithSole [.Tuple [.Name u px, .Name v py] kt pt] (.Tuple [a, b] k2 pt2) pos.line X.env = pure false := by rfl) :
    PS X (.Assign [.Tuple [.Name u px, .Name v py] kt pt] (.Tuple [a, b] k2 pt2) pos) (tS Γ B W (zpar [i, j] gs)) := z_par2 hc hN hi hj hij hx hy ha hw hs
theorem sval' {gs : M → R (List Sl)} (ha : PE X e (tE Γ B W f)) (hr : PA X es (tAs Γ B W gs)) (hs : starEach (e :: es) X.env = (false, eval e X.env) :: starEach es X.env := by rfl) : PA X (e :: es) (tAs Γ B W (sval f gs)) := s_val ha hr hs
theorem snew' {kk : DenL} {gs : M → R (List Sl)} (ha : PE X e (tF Γ B W kk)) (hr : ∀ B, PA X es (tAs Γ B W gs)) (hs : starEach (e :: es) X.env = (false, eval e X.env) :: starEach es X.env := by rfl) : PA X (e :: es) (tAs Γ B W (snew kk gs)) := s_new ha hr hs
theorem qneg (ha : PE X a (tE Γ B W f)) : PE X (.UnaryOp .USub a pos) (tE Γ B W (zneg f)) := z_neg ha
theorem par3 {u v w : Str} {c : Expr} {gs : M → R (List Sl)} {px py pz pt pt2 : Pos} {kt k2 : Nat} (i j l : Nat) (hN : X.N.Nodup) (ha : PA X [a, b, c] (tAs Γ B W gs)) (hc : X.calm = true := by rfl) (hi : X.N[i]? = some u := by rfl) (hj : X.N[j]? = some v := by rfl) (hl : X.N[l]? = some w := by rfl) (hij : i ≠ j := by decide) (hil : i ≠ l := by decide) (hjl : j ≠ l := by decide)
    (hx : X.env.scope.names.lookup u = some .local := by rfl) (hy : X.env.scope.names.lookup v = some .local := by rfl) (hz : X.env.scope.names.lookup w = some .local := by rfl)
    (hw : swappedStores [.Tuple [.Name u px, .Name v py, .Name w pz] kt pt] (.Tuple [a, b, c] k2 pt2) X.env = pure (some [u, v, w]) := by rfl) (hs : swapsWithSole [.Tuple [.Name u px, .Name v py, .Name w pz] kt pt] (.Tuple [a, b, c] k2 pt2) pos.line X.env = pure false := by rfl) :
    PS X (.Assign [.Tuple [.Name u px, .Name v py, .Name w pz] kt pt] (.Tuple [a, b, c] k2 pt2) pos) (tS Γ B W (zpar [i, j, l] gs)) := z_par3 hc hN hi hj hl hij hil hjl hx hy hz ha hw hs
theorem gn {ts : List Expr} {is : List Nat} (i : Nat) (hN : X.N.Nodup) (hr : PGs X ts (gNames is)) (hi : X.N[i]? = some x := by rfl) (hx : locB X.env.scope x = true := by rfl) (hf : X.fn x = true ∨ X.env.scope.names.lookup x = some .local := by first | exact .inl rfl | exact .inr rfl)
    (hs : (assignEach (.Name x pos :: ts) X.env).map (·.2) = assign (.Name x pos) X.env :: (assignEach ts X.env).map (·.2) := by rfl) : PGs X (.Name x pos :: ts) (gNames (i :: is)) := pgs_cons (pg_name hN hi (locB_ok hx) hf) hr hs
theorem gn0 : PGs X [] (gNames []) := pgs_nil
theorem sitem {o i : Expr} {apos : Pos} (he : PE X e (tE Γ B W f)) (ho : PE X o (tE Γ B W g)) (hi : PE X i (tE Γ B W h)) (hs : swapsWithSole [.Subscript o i apos] e pos.line X.env = pure false := by rfl) (hw : swappedStores [.Subscript o i apos] e X.env = pure none := by rfl)
    (h1 : (assignEach [.Subscript o i apos] X.env).map (·.2) = [assign (.Subscript o i apos) X.env] := by rfl)
    (hasg : ∀ v, assign (.Subscript o i apos) X.env v = (do
      let ov ← holding [v] (eval o X.env)
      let iv ← holding [v, ov] (eval i X.env)
      standAt apos
      holding [v, ov, iv] (setItem ov iv v)
      release [v, ov, iv] []) := by intro _; rfl) : PS X (.Assign [.Subscript o i apos] e pos) (tS Γ B W (zsetItem f g h)) := z_setItem ho hi he hasg hs hw h1
/-- a method of a list that a name builds -/
structure MbZ (X : Cx) (Γ : Gm) (name : Str) (k : List D → List D → Option (D × List D)) : Prop where
  ex : ∃ id r, Slot "list" name id ∧ typeOf (.builtin id) = pure (.type "method_descriptor") ∧ MtR X id r ∧ MtZ Γ r k
theorem mappend : MbZ X Γ "append" appendK := ⟨_, _, PySem.F.slot_list_append, PySem.F.type_list_append, mt_append, mz_append⟩
theorem mextend : MbZ X Γ "extend" extendK := ⟨_, _, PySem.F.slot_list_extend, PySem.F.type_list_extend, mt_extend, mz_extend⟩
theorem mpop : MbZ X Γ "pop" popK := ⟨_, _, PySem.F.slot_list_pop, PySem.F.type_list_pop, mt_popAt, mz_pop⟩
theorem qbld {y name : Str} {k : List D → List D → Option (D × List D)} {apos : Pos} (i : Nat) (C : MbZ X Γ name k) (ha : PAL X Γ B W (e :: es) fs) (hN : X.N[i]? = some y := by rfl) (hv : visB X.env.scope y = true := by rfl) (hd : (y == ("__debug__" : Str)) = false := by decide) (hcd : (y == ("__classdict__" : Str)) = false := by decide)
    (hbase : attributeBase (.Name y p) name X.env (eval (.Name y p) X.env) = eval (.Name y p) X.env := by rfl)
    (hfew : ((backTo pos (starEach (e :: es) X.env)).all (fun x => !x.1) && (backToKw pos (keywordEach [] X.env)).all (fun x => x.1.isSome)
      && decide ((e :: es).length + ([] : List Keyword).length + (if ([] : List Keyword).isEmpty then 0 else 1) < 30)) = true := by rfl)
    (hline : (apos.endLine == pos.line) = true := by rfl) (hs : starEach (e :: es) X.env = (false, eval e X.env) :: starEach es X.env := by rfl) (hplain : (backTo pos (starEach es X.env)).any (·.1) = false := by rfl) :
    PE X (.Call (.Attribute (.Name y p) name apos) (e :: es) [] pos) (tE Γ B W (zbld i fs k)) := by
  obtain ⟨id, r, h1, h2, h3, h4⟩ := C.ex
  exact z_bld PySem.F.plainAttrs_list h1 h2 h3 h4 hN (visB_ok hv) hd hcd ha.pa hbase hfew hline hs hplain
theorem izip {e2 : Expr} {tpos : Pos} {elts : List Expr} {kk : Nat} (M : Bn X.mg) (ha : PAL X Γ B W [e, e2] fs) (hK : X.K = Γ.K := by rfl) (hg : Gl X "zip" := by rfl) (hs : starEach [e, e2] X.env = (false, eval e X.env) :: starEach [e2] X.env := by rfl) (hpl : (backTo pos (starEach [e2] X.env)).any (·.1) = false := by rfl) :
    PI X (.Tuple elts kk tpos) (.Call (.Name "zip" p) [e, e2] [] pos) (tI Γ B W (zzip fs)) := i_zip hK hg (M _ (by decide)) ha.pa hs hpl
end
/-! ### a def of the text -/
section
variable {Γ : Gm} {P : Program} {w : World} {mg : Str → Option Value} {base : Heap} {x q : Str} {params : Arguments} {body : List Stmt} {sc : Scope} {dvs : List V} {kws : List (Str × V)} {f : Addr} {fd : FuncData} {N ps : List Str} {n k : Nat} {g : DenS} {dfl : List D}
theorem calOf (F : FunD Γ.K x q params body sc dvs kws f fd) (hm : mg x = some (.ref f)) (S : FnScope N ps sc) (hn : n = ps.length)
    (hb : ∀ (cdv : Value) (A : Around) (outer : List Env) (s : Shared) (H : Hp) (E : XK) (z : Fz), A.guards = some [] → Room k (A.deeper (envOfC q sc s.heap.objs.size f cdv)) →
      PSs (cxOf (L2.CX P w) P w Γ.K mg base N q sc f cdv A outer s H E) body (tS Γ ⟨H, z, []⟩ (fun c d _ H => E c d H) g))
    (hd : ∀ j, j ≤ dfl.length → ∃ ds dvs, Binds Γ.K fd ps ds ∧ Vals dvs ds ∧ ∀ z, RepL Γ z (dfl.drop j) dvs) : Cal Γ P w mg base x (k + 1) n dfl (bodyFn N n g) :=
  ⟨f, fd, ps, FunD.okZ F S hn hb, hm, F.kp, hd⟩
theorem bind0 (F : FunD Γ.K x q params body sc [] kws f fd) (h : ∀ (kV doc pm : Value) (an : Option Addr) (cdv ct : Value) (us : List Value), us.length = ps.length → bindArgs (PySem.W.fnOf x q params body sc .none kV doc pm an cdv ct) ⟨us, []⟩ = pure (ps.zip us)) :
    ∀ j, j ≤ ([] : List D).length → ∃ ds dvs, Binds Γ.K fd ps ds ∧ Vals dvs ds ∧ ∀ z, RepL Γ z (([] : List D).drop j) dvs := fun j _ => ⟨[], [], F.bindsN h, .nil, fun z => by rw [List.drop_nil]; exact RepL.nil⟩
theorem takesCx {cdv : Value} {A : Around} {outer : List Env} {s : Shared} {H : Hp} {E : XK} : Takes (cxOf (L2.CX P w) P w Γ.K mg base N q sc f cdv A outer s H E) (fun c d _ H => E c d H) := takes_of rfl rfl rfl rfl
theorem ownsCx {cdv : Value} {A : Around} {outer : List Env} {s : Shared} {H : Hp} {E : XK} : PassesOwn (model P w) (cxOf (L2.CX P w) P w Γ.K mg base N q sc f cdv A outer s H E).A (cxOf (L2.CX P w) P w Γ.K mg base N q sc f cdv A outer s H E).env (cxOf (L2.CX P w) P w Γ.K mg base N q sc f cdv A outer s H E).xe := passes_of rfl
end
/-- in a comprehension no error is let out -/
theorem takes0 {X : Cx} : Takes X W0 := fun _ _ ⟨_, _, _, _, _, _, _, _, _, _, _, _, _, _, _, _, w⟩ => w.elim
end Z

set_option linter.all false
namespace Z
open PySem PySem.Spec PyProof.Rows L2 RZ
theorem isi_int_non  : isiD "int" .non = some (.bl false) := by rfl
theorem isi_int_bl (b : Bool) : isiD "int" (.bl b) = some (.bl true) := by rfl
theorem isi_int_int (i : Int) : isiD "int" (.int i) = some (.bl true) := by rfl
theorem isi_int_str (x : Str) : isiD "int" (.str x) = some (.bl false) := by rfl
theorem isi_int_tup (ds : List D) : isiD "int" (.tup ds) = some (.bl false) := by rfl
theorem isi_int_lst (ds : List D) : isiD "int" (.lst ds) = some (.bl false) := by rfl
theorem isi_int_dct (ks ds : List D) : isiD "int" (.dct ks ds) = some (.bl false) := by rfl
theorem isi_bool_non  : isiD "bool" .non = some (.bl false) := by rfl
theorem isi_bool_bl (b : Bool) : isiD "bool" (.bl b) = some (.bl true) := by rfl
theorem isi_bool_int (i : Int) : isiD "bool" (.int i) = some (.bl false) := by rfl
theorem isi_bool_str (x : Str) : isiD "bool" (.str x) = some (.bl false) := by rfl
theorem isi_bool_tup (ds : List D) : isiD "bool" (.tup ds) = some (.bl false) := by rfl
theorem isi_bool_lst (ds : List D) : isiD "bool" (.lst ds) = some (.bl false) := by rfl
theorem isi_bool_dct (ks ds : List D) : isiD "bool" (.dct ks ds) = some (.bl false) := by rfl
theorem isi_tuple_non  : isiD "tuple" .non = some (.bl false) := by rfl
theorem isi_tuple_bl (b : Bool) : isiD "tuple" (.bl b) = some (.bl false) := by rfl
theorem isi_tuple_int (i : Int) : isiD "tuple" (.int i) = some (.bl false) := by rfl
theorem isi_tuple_str (x : Str) : isiD "tuple" (.str x) = some (.bl false) := by rfl
theorem isi_tuple_tup (ds : List D) : isiD "tuple" (.tup ds) = some (.bl true) := by rfl
theorem isi_tuple_lst (ds : List D) : isiD "tuple" (.lst ds) = some (.bl false) := by rfl
theorem isi_tuple_dct (ks ds : List D) : isiD "tuple" (.dct ks ds) = some (.bl false) := by rfl
theorem isi_str_non  : isiD "str" .non = some (.bl false) := by rfl
theorem isi_str_bl (b : Bool) : isiD "str" (.bl b) = some (.bl false) := by rfl
theorem isi_str_int (i : Int) : isiD "str" (.int i) = some (.bl false) := by rfl
theorem isi_str_str (x : Str) : isiD "str" (.str x) = some (.bl true) := by rfl
theorem isi_str_tup (ds : List D) : isiD "str" (.tup ds) = some (.bl false) := by rfl
theorem isi_str_lst (ds : List D) : isiD "str" (.lst ds) = some (.bl false) := by rfl
theorem isi_str_dct (ks ds : List D) : isiD "str" (.dct ks ds) = some (.bl false) := by rfl
theorem isi_list_non  : isiD "list" .non = some (.bl false) := by rfl
theorem isi_list_bl (b : Bool) : isiD "list" (.bl b) = some (.bl false) := by rfl
theorem isi_list_int (i : Int) : isiD "list" (.int i) = some (.bl false) := by rfl
theorem isi_list_str (x : Str) : isiD "list" (.str x) = some (.bl false) := by rfl
theorem isi_list_tup (ds : List D) : isiD "list" (.tup ds) = some (.bl false) := by rfl
theorem isi_list_lst (ds : List D) : isiD "list" (.lst ds) = some (.bl true) := by rfl
theorem isi_list_dct (ks ds : List D) : isiD "list" (.dct ks ds) = some (.bl false) := by rfl
theorem isi_dict_non  : isiD "dict" .non = some (.bl false) := by rfl
theorem isi_dict_bl (b : Bool) : isiD "dict" (.bl b) = some (.bl false) := by rfl
theorem isi_dict_int (i : Int) : isiD "dict" (.int i) = some (.bl false) := by rfl
theorem isi_dict_str (x : Str) : isiD "dict" (.str x) = some (.bl false) := by rfl
theorem isi_dict_tup (ds : List D) : isiD "dict" (.tup ds) = some (.bl false) := by rfl
theorem isi_dict_lst (ds : List D) : isiD "dict" (.lst ds) = some (.bl false) := by rfl
theorem isi_dict_dct (ks ds : List D) : isiD "dict" (.dct ks ds) = some (.bl true) := by rfl
end Z
set_option Elab.async false
set_option linter.all false
set_option maxRecDepth 100000
set_option maxHeartbeats 2000000
/-! Z13: sizes of numbers, small facts of data -/
namespace Z
open PySem PySem.Spec PyProof.Rows L2 RZ
theorem bind_ok {α β : Type} {a : α} {m : M} {k : α → M → R β} : (R.ok a m).bind k = k a m := rfl
theorem thenS_ok {α : Type} {a : α} {m : M} {k : α → M → RS} : (R.ok a m).thenS k = k a m := rfl
theorem ofO_some {α : Type} {a : α} {m : M} : ofO (some a) m = .ok a m := rfl
def Bt (k : Nat) (a : Int) : Prop := a.natAbs < 2 ^ k
theorem Bt.lg {k : Nat} {a : Int} (h : Bt k a) : a.natAbs.log2 ≤ k := by
  by_cases h0 : a.natAbs = 0
  · rw [h0]; simp
  · exact Nat.le_of_lt ((Nat.log2_lt h0).mpr h)
theorem Bt.lt {k : Nat} {a : Int} (hk : 0 < k) (h : Bt k a) : a.natAbs.log2 < k := by
  by_cases h0 : a.natAbs = 0
  · rw [h0]; simpa using hk
  · exact (Nat.log2_lt h0).mpr h
theorem Bt.mono {j k : Nat} {a : Int} (h : Bt j a) (e : j ≤ k) : Bt k a := Nat.lt_of_lt_of_le h (Nat.pow_le_pow_right (by decide) e)
theorem Bt.mul {j k : Nat} {a b : Int} (ha : Bt j a) (hb : Bt k b) : Bt (j + k) (a * b) := by
  unfold Bt at *
  rw [Int.natAbs_mul, Nat.pow_add]
  exact Nat.mul_lt_mul'' ha hb
theorem Bt.add {j k : Nat} {a b : Int} (ha : Bt j a) (hb : Bt k b) : Bt (max j k + 1) (a + b) := by
  have h1 := ha.mono (Nat.le_max_left j k)
  have h2 := hb.mono (Nat.le_max_right j k)
  unfold Bt at *
  have h3 := Int.natAbs_add_le a b
  have h4 : 2 ^ (max j k + 1) = 2 ^ max j k + 2 ^ max j k := by rw [Nat.pow_succ]; omega
  omega
theorem Bt.neg {k : Nat} {a : Int} (h : Bt k a) : Bt k (-a) := by unfold Bt at *; rw [Int.natAbs_neg]; exact h
theorem Bt.emod {k : Nat} {a b : Int} (h0 : 0 < b) (h : Bt k b) : Bt k (a % b) := by
  have h1 := Int.emod_nonneg a (show b ≠ 0 by omega)
  have h2 := Int.emod_lt_of_pos a h0
  unfold Bt at *
  omega
theorem Bt.pow {k : Nat} {a : Int} (h : Bt k a) : ∀ n : Nat, 0 < n → Bt (k * n) (a ^ n)
  | 0, h0 => by omega
  | 1, _ => by rw [Int.pow_succ, Int.pow_zero, Int.one_mul, Nat.mul_one]; exact h
  | n + 2, _ => by
    rw [Int.pow_succ, Nat.mul_succ]
    exact (Bt.pow h (n + 1) (by omega)).mul h
theorem Bt.lit {k : Nat} {a : Int} (h : decide (a.natAbs < 2 ^ k) = true) : Bt k a := show a.natAbs < 2 ^ k from of_decide_eq_true h
theorem Bt.of {k : Nat} {a : Int} (h0 : 0 ≤ a) (h : a < 2 ^ k) : Bt k a := by
  unfold Bt
  have : (a.natAbs : Int) < ((2 ^ k : Nat) : Int) := by
    rw [Int.natAbs_of_nonneg h0]
    push_cast
    exact h
  exact_mod_cast this
theorem mulB {j k : Nat} {a b : Int} (ha : Bt j a) (hb : Bt k b) (h : j + k < 1000000) : mulZ (.int a) (.int b) = some (.int (a * b)) := by
  have h1 := ha.lg
  have h2 := hb.lg
  simp only [mulZ, mulD]
  rw [if_pos (decide_eq_true (by omega))]
theorem fdivB {k : Nat} {a b : Int} (h0 : b ≠ 0) (hb : Bt k b) (h : k < 9000) : fdivD (.int a) (.int b) = some (.int (a.fdiv b)) := by
  have h2 := hb.lg
  simp only [fdivD]
  rw [if_pos (decide_eq_true ⟨h0, by omega⟩)]
theorem modB {a b : Int} (h0 : 0 < b) : modD (.int a) (.int b) = some (.int (a % b)) := by
  simp only [modD]
  rw [if_pos (decide_eq_true (by omega)), Int.fmod_eq_emod_of_nonneg _ (by omega)]
theorem powB {k : Nat} {a : Int} (n : Nat) (h : Bt k a) (hk : k * n ≤ 2 ^ 26) (hn : n ≤ 1000) : powD (.int a) (.int n) = some (.int (a ^ n)) := by
  simp only [powD]
  have h1 := h.lg
  have h2 : Builtin.Int.intBits a ≤ k + 1 := by
    unfold Builtin.Int.intBits
    split <;> omega
  have h3 := Nat.mul_le_mul_right n h2
  have h4 : (k + 1) * n = k * n + n := Nat.succ_mul k n
  have h5 : Builtin.Int.intBits a * n ≤ 2 ^ 27 := by omega
  rw [if_pos (decide_eq_true ⟨by omega, by exact_mod_cast h5⟩), Int.toNat_natCast]
theorem powC {a b c : Int} (h : decide (0 ≤ b ∧ (Builtin.Int.intBits a : Int) * b ≤ 2 ^ 27 ∧ a ^ b.toNat = c) = true) : powD (.int a) (.int b) = some (.int c) := by
  obtain ⟨h1, h2, h3⟩ := of_decide_eq_true h
  simp only [powD]
  rw [if_pos (decide_eq_true ⟨h1, h2⟩), h3]
theorem mulC {a b : Int} (h : decide (a.natAbs.log2 + b.natAbs.log2 < 1000000) = true) : mulZ (.int a) (.int b) = some (.int (a * b)) := by
  simp only [mulZ, mulD]
  rw [if_pos h]
theorem absN (x : Int) : (if x < 0 then -x else x) = (x.natAbs : Int) := by split <;> omega
/-! places -/
theorem at0 {α : Type} {x : α} {xs : List α} : atI (x :: xs) 0 = some x := atI_nat (j := 0) rfl
theorem at1 {α : Type} {x y : α} {xs : List α} : atI (x :: y :: xs) 1 = some y := atI_nat (j := 1) rfl
theorem at2 {α : Type} {x y w : α} {xs : List α} : atI (x :: y :: w :: xs) 2 = some w := atI_nat (j := 2) rfl
theorem atN {α : Type} {xs : List α} {i : Int} (h0 : 0 ≤ i) (h : i.toNat < xs.length) : atI xs i = some xs[i.toNat] := by
  have e := atI_nat (xs := xs) (j := i.toNat) (v := xs[i.toNat]) (by rw [List.getElem?_eq_getElem])
  rw [show ((i.toNat : Nat) : Int) = i by omega] at e
  exact e
theorem ix0 {n : Nat} : ixN (n + 1) 0 = some 0 := by
  unfold ixN
  rw [if_pos (by omega), if_pos (by omega)]
  rfl
theorem ix2 {n : Nat} : ixN (n + 3) 2 = some 2 := by
  unfold ixN
  rw [if_pos (by omega), if_pos (by omega)]
  rfl
theorem range_ok {n : Nat} (h : n < 1000000) : rangeS [.int (n : Nat)] = some ((List.range n).map fun i => .int (i : Nat)) := by
  unfold rangeS
  simp only
  rw [if_pos (decide_eq_true (by omega))]
  rfl
theorem rangeF_ok {n : Nat} (h : n < 1000000) : rangeF (.int (n : Nat)) = some ((List.range n).map fun i => .int (i : Nat)) := by
  unfold rangeF
  simp only
  rw [if_pos (decide_eq_true (by omega))]
  simp [range2D]
theorem small_of {n : Nat} (h : n < 1000000) : small n = true := decide_eq_true (by omega)
theorem zlstF_nil {m : M} : zlstF znil m = .ok [] m := by
  have h : small ([] : List D).length = true := small_of (by simp)
  unfold zlstF znil
  show (if small ([] : List D).length = true then R.ok [] m else R.bad) = _
  rw [if_pos h]
theorem ztup_nil {m : M} : ztup znil m = .ok (.tup []) m := by
  have h : small ([] : List D).length = true := small_of (by simp)
  unfold ztup znil
  show (if small ([] : List D).length = true then R.ok (D.tup []) m else R.bad) = _
  rw [if_pos h]
theorem sq1 {f g : DenS} {m m1 : M} (h : f m = .nx m1) : zseq f g m = g m1 := by
  unfold zseq
  rw [h]
theorem sq2 {f g : DenS} {m m1 : M} {d : D} (h : f m = .rt d m1) : zseq f g m = .rt d m1 := by
  unfold zseq
  rw [h]
theorem fnR {N : List Str} {n : Nat} {g : DenS} {ds : List D} {S S' : List (List D)} {d : D} {e : List Sl} (h : g ⟨padE N ds, S⟩ = .rt d ⟨e, S'⟩) (hl : ds.length = n := by rfl) : bodyFn N n g ds S = .ok d S' := by
  unfold bodyFn
  rw [if_pos hl, h]
  rfl
theorem rt1 {f : Den} {m m1 : M} {d : D} (h : f m = .ok d m1) : zret f m = .rt d m1 := by
  unfold zret
  rw [h]
  rfl
theorem for1 {src : DenL} {t : Tg} {b : DenS} {m m1 : M} {ds : List D} (h : src m = .ok ds m1) : zfor src t b m = forL t b ds m1 := by
  unfold zfor
  rw [h]
  rfl
theorem if1 {c : Den} {f g : DenS} {m m1 : M} (h : toB c m = .ok true m1) : zif c f g m = f m1 := by
  unfold zif
  rw [h]
  rfl
theorem if0 {c : Den} {f g : DenS} {m m1 : M} (h : toB c m = .ok false m1) : zif c f g m = g m1 := by
  unfold zif
  rw [h]
  rfl
theorem as1 {f : Den} {t : Tg} {m m1 m2 : M} {d : D} (h : f m = .ok d m1) (ht : t d m1 = some m2) : zasg f t m = .nx m2 := by
  unfold zasg
  rw [h]
  show (match t d m1 with
    | some m2 => RS.nx m2
    | none => .bad) = _
  rw [ht]
theorem ca1 {φ : Fn} {dd ds : List D} {fs : DenL} {m m1 : M} {d : D} {S' : List (List D)} (h : fs m = .ok ds m1) (hf : φ (ds ++ dd) m1.S = .ok d S') : zcall φ dd fs m = .ok d ⟨m1.e, S'⟩ := by
  unfold zcall
  rw [h]
  show backR (φ (ds ++ dd) m1.S) m1 = _
  rw [hf]
  rfl
theorem zrange1 {fs : DenL} {m m1 : M} {n : Nat} (h : fs m = .ok [.int (n : Nat)] m1) (hn : n < 1000000) : zrange fs m = .ok ((List.range n).map fun i => .int (i : Nat)) m1 := by
  simp only [zrange, h, bind_ok, range_ok hn, ofO_some]
theorem zlistRg1 {f : Den} {m m1 : M} {n : Nat} (h : f m = .ok (.int (n : Nat)) m1) (hn : n < 1000000) : zlistRg f m = .ok ((List.range n).map fun i => .int (i : Nat)) m1 := by
  simp only [zlistRg, h, bind_ok, rangeF_ok hn, ofO_some]
theorem fo1 {t : Tg} {b : DenS} {d : D} {ds : List D} {m m1 m2 : M} (h : t d m = some m1) (hb : b m1 = .nx m2) : forL t b (d :: ds) m = forL t b ds m2 := by
  simp only [forL, h, hb]
theorem fo2 {t : Tg} {b : DenS} {d r : D} {ds : List D} {m m1 m2 : M} (h : t d m = some m1) (hb : b m1 = .rt r m2) : forL t b (d :: ds) m = .rt r m2 := by
  simp only [forL, h, hb]
theorem fo0 {t : Tg} {b : DenS} {m : M} : forL t b [] m = .nx m := rfl
/-! comprehensions -/
inductive All2 {α β : Type} (P : α → β → Prop) : List α → List β → Prop
  | nil : All2 P [] []
  | cons {a : α} {b : β} {as : List α} {bs : List β} : P a b → All2 P as bs → All2 P (a :: as) (b :: bs)
theorem All2.length {α β : Type} {P : α → β → Prop} : ∀ {as : List α} {bs : List β}, All2 P as bs → as.length = bs.length
  | _, _, .nil => rfl
  | _, _, .cons _ h => by rw [List.length_cons, List.length_cons, h.length]
theorem All2.imp {α β : Type} {P Q : α → β → Prop} (hi : ∀ a b, P a b → Q a b) : ∀ {as : List α} {bs : List β}, All2 P as bs → All2 Q as bs
  | _, _, .nil => .nil
  | _, _, .cons p h => .cons (hi _ _ p) (h.imp hi)
/-- answers of one form -/
theorem All2.ex {α β γ : Type} {f : γ → β} {P : α → γ → Prop} : ∀ {as : List α} {bs : List β}, All2 (fun a b => ∃ c, b = f c ∧ P a c) as bs → ∃ cs, bs = cs.map f ∧ All2 P as cs
  | _, _, .nil => ⟨[], rfl, .nil⟩
  | _, _, .cons ⟨c, e, p⟩ h => by
    obtain ⟨cs, e2, h2⟩ := h.ex
    exact ⟨c :: cs, by rw [e, e2]; rfl, .cons p h2⟩
theorem All2.right {α β : Type} {P : α → β → Prop} {Q : β → Prop} (hi : ∀ a b, P a b → Q b) : ∀ {as : List α} {bs : List β}, All2 P as bs → ∀ b ∈ bs, Q b
  | _, _, .nil, b, hb => nomatch hb
  | _, _, .cons p h, b, hb => by
    rcases List.mem_cons.mp hb with e | hb
    · rw [e]; exact hi _ _ p
    · exact h.right hi b hb
theorem All2.eq_map {α β : Type} {f : α → β} : ∀ {as : List α} {bs : List β}, All2 (fun a b => b = f a) as bs → bs = as.map f
  | _, _, .nil => rfl
  | _, _, .cons e h => by rw [e, h.eq_map]; rfl
theorem compL_map {t : Tg} {el : Den} {own : List Nat} {I : M → Prop} {P : D → D → Prop} : ∀ (ds acc : List D) (m : M), I m →
    (∀ d ∈ ds, ∀ m, I m → ∃ m1 x m2, t d m = some m1 ∧ el m1 = .ok x m2 ∧ I (hide own m2) ∧ P d x) → ∃ xs m', compL t yes el own ds acc m = .ok (acc ++ xs) m' ∧ I m' ∧ All2 P ds xs
  | [], acc, m, hI, _ => ⟨[], m, by rw [List.append_nil]; rfl, hI, .nil⟩
  | d :: ds, acc, m, hI, h => by
    obtain ⟨m1, x, m2, e1, e2, e3, e4⟩ := h d (List.mem_cons_self ..) m hI
    obtain ⟨xs, m', h1, h2, h3⟩ := compL_map ds (acc ++ [x]) (hide own m2) e3 fun d hd => h d (List.mem_cons_of_mem _ hd)
    refine ⟨x :: xs, m', ?_, h2, .cons e4 h3⟩
    simp only [compL, e1, yes, if_true, e2, h1, List.append_assoc, List.singleton_append]
end Z

set_option Elab.async false
set_option linter.all false
set_option maxRecDepth 100000
set_option maxHeartbeats 2000000
/-! Z14: fractions in their lowest terms -/
namespace Z
open PySem PySem.Spec PyProof.Rows L2 RZ
abbrev fr (p : Int × Int) : D := .tup [.int p.1, .int p.2]
def Red (p : Int × Int) : Prop := 0 < p.2 ∧ Int.gcd p.1 p.2 = 1
def vl (p : Int × Int) : Rat := (p.1 : Rat) / (p.2 : Rat)
def sgn (t l : Int) : Int := if 0 < l then (Int.gcd t l : Int) else -(Int.gcd t l : Int)
def cutF (t l : Int) : Int × Int := (t.fdiv (sgn t l), l.fdiv (sgn t l))
theorem castn {a : Int} (h : a ≠ 0) : (a : Rat) ≠ 0 := fun e => h (by exact_mod_cast e)
theorem gcd_pos {t l : Int} (h : l ≠ 0) : 0 < Int.gcd t l := Int.gcd_pos_of_ne_zero_right t h
theorem sgn_ne {t l : Int} (h : l ≠ 0) : sgn t l ≠ 0 := by
  have := gcd_pos (t := t) h
  unfold sgn
  split <;> omega
theorem cut_ex (t l : Int) (h : l ≠ 0) : ∃ a b s : Int, s = sgn t l ∧ t = s * a ∧ l = s * b ∧ cutF t l = (a, b) ∧ 0 < b ∧ Int.gcd a b = 1 := by
  have hs := sgn_ne (t := t) h
  have hg := gcd_pos (t := t) h
  have d1 : sgn t l ∣ t := by
    unfold sgn
    split
    · exact Int.gcd_dvd_left t l
    · exact Int.neg_dvd.mpr (Int.gcd_dvd_left t l)
  have d2 : sgn t l ∣ l := by
    unfold sgn
    split
    · exact Int.gcd_dvd_right t l
    · exact Int.neg_dvd.mpr (Int.gcd_dvd_right t l)
  obtain ⟨a, ha⟩ := d1
  obtain ⟨b, hb⟩ := d2
  have ab : (sgn t l).natAbs = Int.gcd t l := by
    unfold sgn
    split <;> omega
  refine ⟨a, b, sgn t l, rfl, ha, hb, ?_, ?_, ?_⟩
  · unfold cutF
    have e1 : t.fdiv (sgn t l) = a := by
      conv => lhs; arg 1; rw [ha]
      exact Int.mul_fdiv_cancel_left a hs
    have e2 : l.fdiv (sgn t l) = b := by
      conv => lhs; arg 1; rw [hb]
      exact Int.mul_fdiv_cancel_left b hs
    rw [e1, e2]
  · by_cases hl : 0 < l
    · have hs2 : 0 < sgn t l := by
        unfold sgn
        rw [if_pos hl]
        omega
      rw [hb] at hl
      have : ¬ b ≤ 0 := fun z => by
        have q := Int.mul_nonneg (Int.le_of_lt hs2) (show 0 ≤ -b by omega)
        rw [Int.mul_neg] at q
        omega
      omega
    · have hs2 : sgn t l < 0 := by
        unfold sgn
        rw [if_neg hl]
        omega
      have hl2 : sgn t l * b < 0 := by rw [← hb]; omega
      have : ¬ b ≤ 0 := fun z => by
        have := Int.mul_nonneg_of_nonpos_of_nonpos (Int.le_of_lt hs2) z
        omega
      omega
  · have e := Int.gcd_mul_left (sgn t l) a b
    rw [← ha, ← hb, ab] at e
    have e2 : Int.gcd t l * Int.gcd a b = Int.gcd t l * 1 := by omega
    exact Nat.eq_of_mul_eq_mul_left hg e2
theorem cut_red {t l : Int} (h : l ≠ 0) : Red (cutF t l) := by
  obtain ⟨a, b, s, _, _, _, e, h1, h2⟩ := cut_ex t l h
  rw [e]
  exact ⟨h1, h2⟩
theorem cut_vl {t l : Int} (h : l ≠ 0) : vl (cutF t l) = (t : Rat) / (l : Rat) := by
  obtain ⟨a, b, s, _, h1, h2, e, h3, _⟩ := cut_ex t l h
  rw [e, h1, h2]
  have hs : s ≠ 0 := fun z => h (by rw [h2, z, Int.zero_mul])
  have q1 := castn hs
  have q2 := castn (show b ≠ 0 by omega)
  show (a : Rat) / (b : Rat) = _
  push_cast
  grind
theorem natAbs_le_mul {s a : Int} (hs : s ≠ 0) : a.natAbs ≤ (s * a).natAbs := by
  rw [Int.natAbs_mul]
  exact Nat.le_mul_of_pos_left _ (by omega)
theorem cut_bt {t l : Int} {k : Nat} (h : l ≠ 0) (ht : Bt k t) (hl : Bt k l) : Bt k (cutF t l).1 ∧ Bt k (cutF t l).2 := by
  obtain ⟨a, b, s, _, h1, h2, e, h3, _⟩ := cut_ex t l h
  have hs : s ≠ 0 := fun z => h (by rw [h2, z, Int.zero_mul])
  rw [e]
  have q1 := natAbs_le_mul (a := a) hs
  have q2 := natAbs_le_mul (a := b) hs
  rw [← h1] at q1
  rw [← h2] at q2
  exact ⟨Nat.lt_of_le_of_lt q1 ht, Nat.lt_of_le_of_lt q2 hl⟩
theorem sgn_bt {t l : Int} {k : Nat} (h : l ≠ 0) (hl : Bt k l) : Bt k (sgn t l) := by
  have h1 : (sgn t l).natAbs = Int.gcd t l := by
    unfold sgn
    split <;> omega
  have h2 := Int.gcd_le_natAbs_right t h
  unfold Bt at *
  omega
/-- a fraction in its lowest terms is told by its worth -/
theorem red_eq {p q : Int × Int} (hp : Red p) (hq : Red q) (h : vl p = vl q) : p = q := by
  obtain ⟨a, b⟩ := p
  obtain ⟨c, d⟩ := q
  obtain ⟨hb, g1⟩ := hp
  obtain ⟨hd, g2⟩ := hq
  simp only at hb hd g1 g2
  have q1 := castn (show b ≠ 0 by omega)
  have q2 := castn (show d ≠ 0 by omega)
  have e : (a : Rat) / (b : Rat) = (c : Rat) / (d : Rat) := h
  have e2 : (a : Rat) * d = c * b := by grind
  have e3 : a * d = c * b := by exact_mod_cast e2
  have n1 : a.natAbs * d.natAbs = c.natAbs * b.natAbs := by rw [← Int.natAbs_mul, ← Int.natAbs_mul, e3]
  have c1 : Nat.Coprime b.natAbs a.natAbs := by
    have : Nat.gcd b.natAbs a.natAbs = Nat.gcd a.natAbs b.natAbs := Nat.gcd_comm _ _
    unfold Nat.Coprime
    rw [this]
    exact g1
  have c2 : Nat.Coprime d.natAbs c.natAbs := by
    have : Nat.gcd d.natAbs c.natAbs = Nat.gcd c.natAbs d.natAbs := Nat.gcd_comm _ _
    unfold Nat.Coprime
    rw [this]
    exact g2
  have d1 : b.natAbs ∣ d.natAbs := Nat.Coprime.dvd_of_dvd_mul_left c1 ⟨c.natAbs, by rw [n1, Nat.mul_comm]⟩
  have d2 : d.natAbs ∣ b.natAbs := Nat.Coprime.dvd_of_dvd_mul_left c2 ⟨a.natAbs, by rw [← n1, Nat.mul_comm]⟩
  have ed := Nat.dvd_antisymm d1 d2
  have bd : b = d := by omega
  subst bd
  have ac : a = c := Int.eq_of_mul_eq_mul_right (by omega) e3
  rw [ac]
/-! ### sums -/
def Fk (k : Nat) (p : Int × Int) : Prop := Red p ∧ Bt k p.1 ∧ Bt k p.2
theorem Fk.mono {j k : Nat} {p : Int × Int} (h : Fk j p) (e : j ≤ k) : Fk k p := ⟨h.1, h.2.1.mono e, h.2.2.mono e⟩
theorem Red.ne {p : Int × Int} (h : Red p) : p.2 ≠ 0 := by have := h.1; omega
def tmF (p q : Int × Int) : Int × Int := cutF (p.1 * q.1) (p.2 * q.2)
def plF (p q : Int × Int) : Int × Int := cutF (p.1 * q.2 + q.1 * p.2) (p.2 * q.2)
theorem tm_ok {j k : Nat} {p q : Int × Int} (hp : Fk j p) (hq : Fk k q) : Fk (j + k) (tmF p q) ∧ vl (tmF p q) = vl p * vl q := by
  have n1 := hp.1.ne
  have n2 := hq.1.ne
  have n3 : p.2 * q.2 ≠ 0 := Int.mul_ne_zero n1 n2
  refine ⟨⟨cut_red n3, cut_bt n3 (hp.2.1.mul hq.2.1) (hp.2.2.mul hq.2.2)⟩, ?_⟩
  rw [tmF, cut_vl n3]
  have q1 := castn n1
  have q2 := castn n2
  unfold vl
  push_cast
  grind
theorem pl_ok {j k : Nat} {p q : Int × Int} (hp : Fk j p) (hq : Fk k q) : Fk (j + k + 1) (plF p q) ∧ vl (plF p q) = vl p + vl q := by
  have n1 := hp.1.ne
  have n2 := hq.1.ne
  have n3 : p.2 * q.2 ≠ 0 := Int.mul_ne_zero n1 n2
  have b1 := (hp.2.1.mul hq.2.2).add (hq.2.1.mul hp.2.2)
  refine ⟨⟨cut_red n3, cut_bt n3 (b1.mono (by omega)) ((hp.2.2.mul hq.2.2).mono (by omega))⟩, ?_⟩
  rw [plF, cut_vl n3]
  have q1 := castn n1
  have q2 := castn n2
  unfold vl
  push_cast
  grind
/-- the worth of a sum with weights -/
def wsum : List (Int × Int) → List (Int × Int) → Rat
  | f :: fs, w :: ws => vl f * vl w + wsum fs ws
  | _, _ => 0
def wF : Int × Int → List (Int × Int) → List (Int × Int) → Int × Int
  | p, f :: fs, w :: ws => wF (plF p (tmF f w)) fs ws
  | p, _, _ => p
theorem wF_ok {c : Nat} : ∀ (fs ws : List (Int × Int)) (p : Int × Int) (k : Nat), Fk k p → (∀ f ∈ fs, Fk c f) → (∀ w ∈ ws, Fk c w) → Fk (k + fs.length * (2 * c + 1)) (wF p fs ws) ∧ vl (wF p fs ws) = vl p + wsum fs ws
  | [], ws, p, k, hp, _, _ => ⟨hp.mono (by simp), by simp [wF, wsum, Rat.add_zero]⟩
  | f :: fs, [], p, k, hp, _, _ => ⟨hp.mono (by simp), by simp [wF, wsum, Rat.add_zero]⟩
  | f :: fs, w :: ws, p, k, hp, hf, hw => by
    obtain ⟨t1, t2⟩ := tm_ok (hf f (List.mem_cons_self ..)) (hw w (List.mem_cons_self ..))
    obtain ⟨p1, p2⟩ := pl_ok hp t1
    obtain ⟨r1, r2⟩ := wF_ok fs ws _ _ p1 (fun x hx => hf x (List.mem_cons_of_mem _ hx)) (fun x hx => hw x (List.mem_cons_of_mem _ hx))
    refine ⟨r1.mono ?_, ?_⟩
    · have e : (fs.length + 1) * (2 * c + 1) = fs.length * (2 * c + 1) + (2 * c + 1) := Nat.succ_mul _ _
      rw [List.length_cons, e]
      omega
    · show vl (wF (plF p (tmF f w)) fs ws) = _
      rw [r2, p2, t2]
      show _ = vl p + (vl f * vl w + wsum fs ws)
      grind
theorem wsum_comm : ∀ (fs ws : List (Int × Int)), wsum fs ws = wsum ws fs
  | [], [] => rfl
  | [], _ :: _ => rfl
  | _ :: _, [] => rfl
  | f :: fs, w :: ws => by
    show vl f * vl w + wsum fs ws = vl w * vl f + wsum ws fs
    rw [wsum_comm fs ws, Rat.mul_comm]
theorem fk1 : Fk 2 (1, 1) := ⟨⟨by decide, by decide⟩, Bt.lit (by decide), Bt.lit (by decide)⟩
theorem fk0 : Fk 2 (0, 1) := ⟨⟨by decide, by decide⟩, Bt.lit (by decide), Bt.lit (by decide)⟩
theorem vl1 : vl (1, 1) = 1 := by decide +kernel
theorem vl0 : vl (0, 1) = 0 := by decide +kernel
end Z

set_option Elab.async false
set_option linter.all false
set_option maxRecDepth 100000
set_option maxHeartbeats 2000000
namespace Z
open PySem PySem.Spec PyProof.Rows L2 RZ
/-! printed by gen.py: the text -/
def topS (i : Nat) : Stmt := PySem.Challenge.pw_tiesums_k02_whole_sums_of_fractions.main.body.getD i (.Pass ⟨0, 0, 0, 0⟩)
abbrev s_is_integer : Stmt := topS 5
abbrev N_is_integer : List Str := ["value", "low", "high"]
def g_is_integer : DenS :=
  zseq (zif (zor (znot (zisi "int" (zvar 0))) (zisi "bool" (zvar 0))) (zseq (zret (zk (.bl false)))
  znext) znext)
  (zseq (zret (zand (zor (zop isND (zvar 1) (zk .non)) (zop leD (zvar 1) (zvar 0))) (zor (zop isND (zvar 2) (zk .non)) (zop leD (zvar 0) (zvar 2)))))
  znext)
def f_is_integer : Fn := bodyFn N_is_integer 3 g_is_integer
abbrev s_is_tuple : Stmt := topS 6
abbrev N_is_tuple : List Str := ["value", "few", "most"]
def g_is_tuple : DenS :=
  zseq (zret (zand (zisi "tuple" (zvar 0)) (zand (zop leD (zvar 1) (zcb lenD (zcons (zvar 0) znil))) (zor (zop isND (zvar 2) (zk .non)) (zop leD (zcb lenD (zcons (zvar 0) znil)) (zvar 2))))))
  znext
def f_is_tuple : Fn := bodyFn N_is_tuple 3 g_is_tuple
abbrev s_common : Stmt := topS 11
abbrev N_common : List Str := ["one", "other"]
def g_common : DenS :=
  zseq (zpar [0, 1] (sval (zcb absD (zcons (zvar 0) znil)) (sval (zcb absD (zcons (zvar 1) znil)) snil)))
  (zseq (zwhile (zop gtD (zvar 1) (zk (.int 0))) (zseq (zpar [0, 1] (sval (zvar 1) (sval (zop modD (zvar 0) (zvar 1)) snil)))
  znext))
  (zseq (zret (zvar 0))
  znext))
def f_common : Fn := bodyFn N_common 2 g_common
abbrev s_cut : Stmt := topS 12
abbrev N_cut : List Str := ["top", "low", "share"]
def g_cut : DenS :=
  zseq (zasg (zite (zop gtD (zvar 1) (zk (.int 0))) (zcall f_common [] (zcons (zvar 0) (zcons (zvar 1) znil))) (zneg (zcall f_common [] (zcons (zvar 0) (zcons (zvar 1) znil))))) (gset 2))
  (zseq (zret (ztup (zcons (zop fdivD (zvar 0) (zvar 2)) (zcons (zop fdivD (zvar 1) (zvar 2)) znil))))
  znext)
def f_cut : Fn := bodyFn N_cut 2 g_cut
abbrev s_is_fraction : Stmt := topS 13
abbrev N_is_fraction : List Str := ["value"]
def g_is_fraction : DenS :=
  zseq (zif (zor (znot (zcall f_is_tuple [] (zcons (zvar 0) (zcons (zk (.int 2)) (zcons (zk (.int 2)) znil))))) (zor (znot (zcall f_is_integer [.non, .non] (zcons (zidx (zvar 0) (zk (.int 0))) znil))) (znot (zcall f_is_integer [.non] (zcons (zidx (zvar 0) (zk (.int 1))) (zcons (zk (.int 1)) znil)))))) (zseq (zret (zk (.bl false)))
  znext) znext)
  (zseq (zret (zop eqD (zcall f_common [] (zcons (zidx (zvar 0) (zk (.int 0))) (zcons (zidx (zvar 0) (zk (.int 1))) znil))) (zk (.int 1))))
  znext)
def f_is_fraction : Fn := bodyFn N_is_fraction 1 g_is_fraction
abbrev s_are_fractions : Stmt := topS 14
abbrev N_are_fractions : List Str := ["value", "many", "one"]
def g_are_fractions : DenS :=
  zseq (zif (zor (znot (zisi "tuple" (zvar 0))) (zand (zop isNotND (zvar 1) (zk .non)) (zop neD (zcb lenD (zcons (zvar 0) znil)) (zvar 1)))) (zseq (zret (zk (.bl false)))
  znext) znext)
  (zseq (zret (zcb allD (zcons (frz (zcompF (zseqI (zvar 0)) (gset 2) yes (zcall f_is_fraction [] (zcons (zvar 2) znil)) [2])) znil)))
  znext)
def f_are_fractions : Fn := bodyFn N_are_fractions 2 g_are_fractions
abbrev s_plus : Stmt := topS 15
abbrev N_plus : List Str := ["one", "other"]
def g_plus : DenS :=
  zseq (zret (zcall f_cut [] (zcons (zop addD (zop mulZ (zidx (zvar 0) (zk (.int 0))) (zidx (zvar 1) (zk (.int 1)))) (zop mulZ (zidx (zvar 1) (zk (.int 0))) (zidx (zvar 0) (zk (.int 1))))) (zcons (zop mulZ (zidx (zvar 0) (zk (.int 1))) (zidx (zvar 1) (zk (.int 1)))) znil))))
  znext
def f_plus : Fn := bodyFn N_plus 2 g_plus
abbrev s_times : Stmt := topS 16
abbrev N_times : List Str := ["one", "other"]
def g_times : DenS :=
  zseq (zret (zcall f_cut [] (zcons (zop mulZ (zidx (zvar 0) (zk (.int 0))) (zidx (zvar 1) (zk (.int 0)))) (zcons (zop mulZ (zidx (zvar 0) (zk (.int 1))) (zidx (zvar 1) (zk (.int 1)))) znil))))
  znext
def f_times : Fn := bodyFn N_times 2 g_times
abbrev s_weighed : Stmt := topS 17
abbrev N_weighed : List Str := ["some", "weights", "found", "one", "weight"]
def g_weighed : DenS :=
  zseq (zasg (zk (.tup [.int 0, .int 1])) (gset 2))
  (zseq (zfor (zzip (zcons (zvar 0) (zcons (zvar 1) znil))) (gtup 2 (gcons (gset 3) (gcons (gset 4) gnil))) (zseq (zasg (zcall f_plus [] (zcons (zvar 2) (zcons (zcall f_times [] (zcons (zvar 3) (zcons (zvar 4) znil))) znil))) (gset 2))
  znext))
  (zseq (zret (zvar 2))
  znext))
def f_weighed : Fn := bodyFn N_weighed 2 g_weighed
abbrev s_fraction : Stmt := topS 18
abbrev N_fraction : List Str := ["top", "low"]
def g_fraction : DenS :=
  zseq (zif (znot (zcall f_is_integer [.non, .non] (zcons (zvar 0) znil))) (zseq (fun _ => .bad)
  znext) znext)
  (zseq (zif (zor (znot (zcall f_is_integer [.non, .non] (zcons (zvar 1) znil))) (zop eqD (zvar 1) (zk (.int 0)))) (zseq (fun _ => .bad)
  znext) znext)
  (zseq (zret (zcall f_cut [] (zcons (zvar 0) (zcons (zvar 1) znil))))
  znext))
def f_fraction : Fn := bodyFn N_fraction 2 g_fraction
abbrev s_total : Stmt := topS 19
abbrev N_total : List Str := ["fractions", "weights"]
def g_total : DenS :=
  zseq (zif (znot (zcall f_are_fractions [.non] (zcons (zvar 0) znil))) (zseq (fun _ => .bad)
  znext) znext)
  (zseq (zif (zop isND (zvar 1) (zk .non)) (zseq (zasg (zop mulZ (ztup (zcons (zk (.tup [.int 1, .int 1])) znil)) (zcb lenD (zcons (zvar 0) znil))) (gset 1))
  znext) znext)
  (zseq (zif (znot (zcall f_are_fractions [] (zcons (zvar 1) (zcons (zcb lenD (zcons (zvar 0) znil)) znil)))) (zseq (fun _ => .bad)
  znext) znext)
  (zseq (zret (zcall f_weighed [] (zcons (zvar 0) (zcons (zvar 1) znil))))
  znext)))
def f_total : Fn := bodyFn N_total 2 g_total
abbrev s__law_pot : Stmt := topS 21
abbrev N__law_pot : List Str := ["_law_script", "_law_place", "_law_cell", "_law_own", "_law_small"]
def g__law_pot : DenS :=
  zseq (zasg (zite (zop ltD (zvar 1) (zcb lenD (zcons (zvar 0) znil))) (zidx (zvar 0) (zvar 1)) (zop addD (zop mulZ (zk (.int 445)) (zvar 1)) (zk (.int 99)))) (gset 2))
  (zseq (zasg (zop mulZ (zop modD (zcb intD (zcons (zcb absD (zcons (zvar 2) znil)) znil)) (zop powD (zop powD (zk (.int 10)) (zk (.int 60))) (zk (.int 5)))) (zcb intD (zcons (zop geD (zcb absD (zcons (zvar 2) znil)) (zop powD (zk (.int 10)) (zk (.int 18)))) znil))) (gset 3))
  (zseq (zasg (zop modD (zcb intD (zcons (zvar 2) znil)) (zk (.int 2305843009213693951))) (gset 4))
  (zseq (zret (celD (zlstF (zcons (zvar 3) (zcons (zop modD (zcb intD (zcons (zop addD (zop addD (zop mulZ (zvar 4) (zk (.int 75017))) (zop mulZ (zop mulZ (zk (.int 7235)) (zvar 1)) (zvar 1))) (zk (.int 335))) znil)) (zk (.int 2305843009213693921))) (zcons (zk (.int 0)) znil))))))
  znext)))
def f__law_pot : Fn := bodyFn N__law_pot 2 g__law_pot
abbrev s__law_take : Stmt := topS 22
abbrev N__law_take : List Str := ["_law_pot_here", "_law_upto", "_law_prime", "_law_blend", "_law_digit"]
def g__law_take : DenS :=
  zseq (zif (zop gtD (zidx (zvar 0) (zk (.int 0))) (zk (.int 0))) (zseq (zasg (zop modD (zcb intD (zcons (zidx (zvar 0) (zk (.int 0))) znil)) (zvar 1)) (gset 4))
  (zseq (zsetItem (zop fdivD (zidx (zvar 0) (zk (.int 0))) (zvar 1)) (zvar 0) (zk (.int 0)))
  (zseq (zret (zvar 4))
  znext))) znext)
  (zseq (zsetItem (zop addD (zidx (zvar 0) (zk (.int 2))) (zk (.int 1))) (zvar 0) (zk (.int 2)))
  (zseq (zasg (zidx (frz (zlstF (zcons (zk (.int 2147483647)) (zcons (zk (.int 2147483629)) (zcons (zk (.int 2147483587)) (zcons (zk (.int 2147483579)) (zcons (zk (.int 2147483563)) znil))))))) (zop modD (zcb intD (zcons (zidx (zvar 0) (zk (.int 2))) znil)) (zk (.int 5)))) (gset 2))
  (zseq (zasg (zop modD (zcb intD (zcons (zop powD (zcb intD (zcons (zop addD (zop addD (zidx (zvar 0) (zk (.int 1))) (zop mulZ (zop mulZ (zk (.int 98450)) (zidx (zvar 0) (zk (.int 2)))) (zidx (zvar 0) (zk (.int 2))))) (zk (.int 149))) znil)) (zk (.int 3))) znil)) (zvar 2)) (gset 3))
  (zseq (zasg (zop modD (zcb intD (zcons (zop mulZ (zvar 3) (zop addD (zop modD (zcb intD (zcons (zvar 3) znil)) (zk (.int 10333))) (zop mulZ (zk (.int 187)) (zidx (zvar 0) (zk (.int 2)))))) znil)) (zk (.int 2305843009213693907))) (gset 3))
  (zseq (zret (zop modD (zcb intD (zcons (zop fdivD (zvar 3) (zk (.int 163))) znil)) (zvar 1)))
  znext)))))
def f__law_take : Fn := bodyFn N__law_take 2 g__law_take
abbrev s__law_ones : Stmt := topS 23
abbrev N__law_ones : List Str := ["_law_many"]
def g__law_ones : DenS :=
  zseq (zret (zop mulZ (ztup (zcons (ztup (zcons (zk (.int 1)) (zcons (zk (.int 1)) znil))) znil)) (zvar 0)))
  znext
def f__law_ones : Fn := bodyFn N__law_ones 1 g__law_ones
abbrev s__law_gcd : Stmt := topS 24
abbrev N__law_gcd : List Str := ["_law_some_here", "_law_found", "_law_number", "_law_rest"]
def g__law_gcd : DenS :=
  zseq (zasg (zk (.int 0)) (gset 1))
  (zseq (zfor (zseqI (zvar 0)) (gset 2) (zseq (zasg (zcb absD (zcons (zcb intD (zcons (zvar 2) znil)) znil)) (gset 3))
  (zseq (zwhile (zop gtD (zvar 3) (zk (.int 0))) (zseq (zpar [1, 3] (sval (zvar 3) (sval (zop modD (zcb intD (zcons (zvar 1) znil)) (zvar 3)) snil)))
  znext))
  znext)))
  (zseq (zret (zvar 1))
  znext))
def f__law_gcd : Fn := bodyFn N__law_gcd 1 g__law_gcd
abbrev s__law_fraction : Stmt := topS 25
abbrev N__law_fraction : List Str := ["_law_top", "_law_low", "_law_size"]
def g__law_fraction : DenS :=
  zseq (zasg (zop mulZ (zcall f__law_gcd [] (zcons (frz (zlstF (zcons (zvar 0) (zcons (zvar 1) znil)))) znil)) (zite (zop gtD (zvar 1) (zk (.int 0))) (zk (.int 1)) (zneg (zk (.int 1))))) (gset 2))
  (zseq (zret (ztup (zcons (zop fdivD (zvar 0) (zvar 2)) (zcons (zop fdivD (zvar 1) (zvar 2)) znil))))
  znext)
def f__law_fraction : Fn := bodyFn N__law_fraction 2 g__law_fraction
abbrev s__law_sum : Stmt := topS 26
abbrev N__law_sum : List Str := ["_law_fractions", "_law_weights", "_law_top", "_law_low", "_law_one", "_law_weight", "_law_share"]
def g__law_sum : DenS :=
  zseq (zpar [2, 3] (sval (zk (.int 0)) (sval (zk (.int 1)) snil)))
  (zseq (zfor (zzip (zcons (zvar 0) (zcons (zvar 1) znil))) (gtup 2 (gcons (gset 4) (gcons (gset 5) gnil))) (zseq (zasg (zop mulZ (zidx (zvar 4) (zk (.int 1))) (zidx (zvar 5) (zk (.int 1)))) (gset 6))
  (zseq (zasg (zop addD (zop mulZ (zvar 2) (zvar 6)) (zop mulZ (zop mulZ (zidx (zvar 4) (zk (.int 0))) (zidx (zvar 5) (zk (.int 0)))) (zvar 3))) (gset 2))
  (zseq (zasg (zop mulZ (zvar 3) (zvar 6)) (gset 3))
  znext))))
  (zseq (zret (zcall f__law_fraction [] (zcons (zvar 2) (zcons (zvar 3) znil))))
  znext))
def f__law_sum : Fn := bodyFn N__law_sum 2 g__law_sum
abbrev s__law_some : Stmt := topS 27
abbrev N__law_some : List Str := ["_law_pot_here", "_law_pool", "_law_many", "_law_lap", "_law_rest", "_law_found"]
def g__law_some : DenS :=
  zseq (zpar [4, 5] (snew (zlistF (zcons (zvar 1) znil)) (snew (zlstF znil) snil)))
  (zseq (zfor (zrange (zcons (zvar 2) znil)) (gset 3) (zseq (zexpr (zbld 5 (zcons (zbld 4 (zcons (zcall f__law_take [] (zcons (zvar 0) (zcons (zlenP 4) znil))) znil) popK) znil) appendK))
  znext))
  (zseq (zret (zvar 5))
  znext))
def f__law_some : Fn := bodyFn N__law_some 3 g__law_some
abbrev s__law_of : Stmt := topS 28
abbrev N__law_of : List Str := ["_law_pot_here", "_law_some_here"]
def g__law_of : DenS :=
  zseq (zret (zidx (zvar 1) (zcall f__law_take [] (zcons (zvar 0) (zcons (zcb lenD (zcons (zvar 1) znil)) znil)))))
  znext
def f__law_of : Fn := bodyFn N__law_of 2 g__law_of
abbrev s__law_drawn_fraction : Stmt := topS 29
abbrev N__law_drawn_fraction : List Str := ["_law_pot_here", "_law_top"]
def g__law_drawn_fraction : DenS :=
  zseq (zasg (zop mulZ (zcall f__law_take [] (zcons (zvar 0) (zcons (zcall f__law_of [] (zcons (zvar 0) (zcons (frz (zlstF (zcons (zk (.int 3)) (zcons (zk (.int 9)) (zcons (zk (.int 9)) (zcons (zk (.int 100)) (zcons (zop powD (zk (.int 10)) (zk (.int 5))) znil))))))) znil))) znil))) (zcall f__law_of [] (zcons (zvar 0) (zcons (frz (zlstF (zcons (zk (.int 1)) (zcons (zk (.int 1)) (zcons (zneg (zk (.int 1))) znil))))) znil)))) (gset 1))
  (zseq (zret (zcall f__law_fraction [] (zcons (zvar 1) (zcons (zop addD (zk (.int 1)) (zcall f__law_take [] (zcons (zvar 0) (zcons (zcall f__law_of [] (zcons (zvar 0) (zcons (frz (zlstF (zcons (zk (.int 1)) (zcons (zk (.int 1)) (zcons (zk (.int 4)) (zcons (zk (.int 12)) (zcons (zk (.int 999)) znil))))))) znil))) znil)))) znil))))
  znext)
def f__law_drawn_fraction : Fn := bodyFn N__law_drawn_fraction 1 g__law_drawn_fraction
abbrev s__law_cells : Stmt := topS 30
abbrev N__law_cells : List Str := ["_law_script", "_law_most"]
def g__law_cells : DenS :=
  zseq (zret (frz (zlistRg (zcb maxD (zcons (zk (.int 1)) (zcons (zcb minD (zcons (zvar 1) (zcons (zcb lenD (zcons (zvar 0) znil)) znil))) znil))))))
  znext
def f__law_cells : Fn := bodyFn N__law_cells 2 g__law_cells
abbrev s__law_one_right : Stmt := topS 31
abbrev N__law_one_right : List Str := ["_law_pot_here", "_law_some_here", "_law_weights", "_law_order", "_law_twice", "_law_parts", "_law_told", "_law_ones_here", "_law_mixed", "_law_its", "_law_at", "_law_weight", "_law_one"]
def g__law_one_right : DenS :=
  zseq (zpar [6, 7] (sval (zcall f_total [] (zcons (zvar 1) (zcons (zvar 2) znil))) (sval (zcall f__law_ones [] (zcons (zcb lenD (zcons (zvar 1) znil)) znil)) snil)))
  (zseq (zif (zor (zop neD (zcb reprD (zcons (zvar 6) znil)) (zcb reprD (zcons (zcall f__law_sum [] (zcons (zvar 1) (zcons (zvar 2) znil))) znil))) (zop neD (zcb reprD (zcons (zcall f_total [.non] (zcons (zvar 1) znil)) znil)) (zcb reprD (zcons (zcall f__law_sum [] (zcons (zvar 1) (zcons (zvar 7) znil))) znil)))) (zseq (zret (zk (.bl false)))
  znext) znext)
  (zseq (zasg (zcall f__law_some [] (zcons (zvar 0) (zcons (frz (zlistRg (zcb lenD (zcons (zvar 1) znil)))) (zcons (zcb lenD (zcons (zvar 1) znil)) znil)))) (gset 3))
  (zseq (zpar [8, 9] (sval (frz (zcompF (zseqI (zvar 3)) (gset 10) yes (zidx (zvar 1) (zvar 10)) [10])) (sval (frz (zcompF (zseqI (zvar 3)) (gset 10) yes (zidx (zvar 2) (zvar 10)) [10])) snil)))
  (zseq (zif (zor (zop neD (zcall f_total [] (zcons (zcb tupleD (zcons (zvar 8) znil)) (zcons (zcb tupleD (zcons (zvar 9) znil)) znil))) (zvar 6)) (zop neD (zcall f_total [] (zcons (zvar 1) (zcons (zvar 7) znil))) (zcall f_total [.non] (zcons (zvar 1) znil)))) (zseq (zret (zk (.bl false)))
  znext) znext)
  (zseq (zasg (zcb tupleD (zcons (frz (zcompF (zseqI (zvar 2)) (gset 11) yes (ztup (zcons (zop fdivD (zop mulZ (zk (.int 2)) (zidx (zvar 11) (zk (.int 0)))) (zcall f__law_gcd [] (zcons (frz (zlstF (zcons (zk (.int 2)) (zcons (zidx (zvar 11) (zk (.int 1))) znil)))) znil))) (zcons (zop fdivD (zidx (zvar 11) (zk (.int 1))) (zcall f__law_gcd [] (zcons (frz (zlstF (zcons (zk (.int 2)) (zcons (zidx (zvar 11) (zk (.int 1))) znil)))) znil))) znil))) [11])) znil)) (gset 4))
  (zseq (zif (zor (zop neD (zcall f_total [] (zcons (zvar 1) (zcons (zvar 4) znil))) (zcall f_total [.non] (zcons (ztup (zcons (zvar 6) (zcons (zvar 6) znil))) znil))) (zop neD (zcall f_total [] (zcons (zvar 2) (zcons (zvar 1) znil))) (zvar 6))) (zseq (zret (zk (.bl false)))
  znext) znext)
  (zseq (zasg (zcb tupleD (zcons (frz (zcompF (zzip (zcons (zvar 1) (zcons (zvar 2) znil))) (gtup 2 (gcons (gset 12) (gcons (gset 9) gnil))) yes (zcall f_fraction [] (zcons (zop mulZ (zidx (zvar 12) (zk (.int 0))) (zidx (zvar 9) (zk (.int 0)))) (zcons (zop mulZ (zidx (zvar 12) (zk (.int 1))) (zidx (zvar 9) (zk (.int 1)))) znil))) [12, 9])) znil)) (gset 5))
  (zseq (zret (zand (zop eqD (zcall f_total [.non] (zcons (zvar 5) znil)) (zvar 6)) (zop eqD (zcall f_total [.non] (zcons (zop addD (zvar 1) (zcb tupleD (zcons (frz (zcompF (zseqI (zvar 1)) (gset 12) yes (ztup (zcons (zneg (zidx (zvar 12) (zk (.int 0)))) (zcons (zidx (zvar 12) (zk (.int 1))) znil))) [12])) znil))) znil)) (ztup (zcons (zk (.int 0)) (zcons (zk (.int 1)) znil))))))
  znext))))))))
def f__law_one_right : Fn := bodyFn N__law_one_right 3 g__law_one_right
abbrev s__law_right : Stmt := topS 32
abbrev N__law_right : List Str := ["_law_pot_here", "_law_lap", "_law_many", "_law_some_here", "_law_weights", "_law_at", "_law_turn"]
def g__law_right : DenS :=
  zseq (zfor (zrange (zcons (zk (.int 8)) znil)) (gset 1) (zseq (zasg (zcall f__law_take [] (zcons (zvar 0) (zcons (zcall f__law_of [] (zcons (zvar 0) (zcons (frz (zlstF (zcons (zk (.int 5)) (zcons (zk (.int 13)) (zcons (zk (.int 25)) znil))))) znil))) znil))) (gset 2))
  (zseq (zasg (zcb tupleD (zcons (frz (zcompF (zrange (zcons (zvar 2) znil)) (gset 6) yes (zcall f__law_drawn_fraction [] (zcons (zvar 0) znil)) [6])) znil)) (gset 3))
  (zseq (zasg (zcb tupleD (zcons (frz (zcompF (zrange (zcons (zvar 2) znil)) (gset 6) yes (zcall f__law_fraction [] (zcons (zop subD (zcall f__law_take [] (zcons (zvar 0) (zcons (zk (.int 19)) znil))) (zk (.int 9))) (zcons (zop addD (zk (.int 1)) (zcall f__law_take [] (zcons (zvar 0) (zcons (zk (.int 4)) znil)))) znil))) [6])) znil)) (gset 4))
  (zseq (zif (znot (zcall f__law_one_right [] (zcons (zvar 0) (zcons (zvar 3) (zcons (zvar 4) znil))))) (zseq (zret (zk (.bl false)))
  znext) znext)
  (zseq (zasg (zcall f__law_take [] (zcons (zvar 0) (zcons (zop addD (zvar 2) (zk (.int 1))) znil))) (gset 5))
  (zseq (zif (zop neD (zcall f_total [.non] (zcons (ztup (zcons (zcall f_total [.non] (zcons (zslice (zvar 3) onone (osome (zvar 5))) znil)) (zcons (zcall f_total [.non] (zcons (zslice (zvar 3) (osome (zvar 5)) onone) znil)) znil))) znil)) (zcall f_total [.non] (zcons (zvar 3) znil))) (zseq (zret (zk (.bl false)))
  znext) znext)
  znext)))))))
  (zseq (zret (zand (zop eqD (zcall f_total [.non] (zcons (ztup znil) znil)) (ztup (zcons (zk (.int 0)) (zcons (zk (.int 1)) znil)))) (zop eqD (zcall f_total [] (zcons (ztup znil) (zcons (ztup znil) znil))) (ztup (zcons (zk (.int 0)) (zcons (zk (.int 1)) znil))))))
  znext)
def f__law_right : Fn := bodyFn N__law_right 1 g__law_right
abbrev s_law : Stmt := topS 33
abbrev N_law : List Str := ["_law_script", "_law_place"]
def g_law : DenS :=
  zseq (zret (zcb allD (zcons (frz (zcompF (zseqI (zcall f__law_cells [] (zcons (zvar 0) (zcons (zk (.int 5)) znil)))) (gset 1) yes (zcall f__law_right [] (zcons (zcall f__law_pot [] (zcons (zvar 0) (zcons (zvar 1) znil))) znil)) [1])) znil)))
  znext
def f_law : Fn := bodyFn N_law 1 g_law
end Z

set_option Elab.async false
set_option linter.all false
set_option maxRecDepth 100000
set_option maxHeartbeats 2000000
namespace Z
open PySem PySem.Spec PyProof.Rows L2 RZ
/-! the drawing of numbers -/
structure PotAt (S : List (List D)) (n k : Nat) : Prop where
  ex : ∃ a b c : Int, S[n]? = some [.int a, .int b, .int c] ∧ 0 ≤ a ∧ Bt 1000 a ∧ 0 ≤ b ∧ Bt 62 b ∧ 0 ≤ c ∧ c ≤ k
theorem PotAt.mono {S : List (List D)} {n j k : Nat} (h : PotAt S n j) (e : j ≤ k) : PotAt S n k := by
  obtain ⟨a, b, c, h1, h2, h3, h4, h5, h6, h7⟩ := h.ex
  exact ⟨a, b, c, h1, h2, h3, h4, h5, h6, by omega⟩
theorem set_at {S : List (List D)} {n : Nat} {x y : List D} (h : S[n]? = some x) : (S.set n y)[n]? = some y := by
  have := (List.getElem?_eq_some_iff.mp h).1
  simp [List.getElem?_set, this]
theorem snoc_at {S : List (List D)} {x : List D} : (S ++ [x])[S.length]? = some x := by simp
theorem fdiv_bt {a u : Int} {k : Nat} (h0 : 0 ≤ a) (hu : 0 < u) (h : Bt k a) : 0 ≤ a.fdiv u ∧ Bt k (a.fdiv u) := by
  rw [Int.fdiv_eq_ediv_of_nonneg _ (by omega)]
  have h1 := Int.ediv_nonneg h0 (show 0 ≤ u by omega)
  have h2 := Int.ediv_le_self u h0
  unfold Bt at *
  exact ⟨h1, by omega⟩
theorem at5 (i : Int) (h0 : 0 ≤ i) (h : i < 5) : ∃ p, atI [D.int 2147483647, .int 2147483629, .int 2147483587, .int 2147483579, .int 2147483563] i = some (.int p) ∧ 0 < p ∧ p < 2 ^ 31 := by
  have : i = 0 ∨ i = 1 ∨ i = 2 ∨ i = 3 ∨ i = 4 := by omega
  rcases this with rfl | rfl | rfl | rfl | rfl
  · exact ⟨2147483647, rfl, by decide, by decide⟩
  · exact ⟨2147483629, rfl, by decide, by decide⟩
  · exact ⟨2147483587, rfl, by decide, by decide⟩
  · exact ⟨2147483579, rfl, by decide, by decide⟩
  · exact ⟨2147483563, rfl, by decide, by decide⟩
theorem small5 : small 5 = true := by decide
theorem small3 : small 3 = true := by decide
theorem e__law_take {S : List (List D)} {n k : Nat} {u : Int} (h : PotAt S n k) (hk : k < 1000000) (hu : 0 < u) (hb : Bt 100 u) : ∃ r S', f__law_take [.cel n, .int u] S = .ok (.int r) S' ∧ 0 ≤ r ∧ r < u ∧ PotAt S' n (k + 1) := by
  obtain ⟨a, b, c, hS, a0, a1, b0, b1, c0, c1⟩ := h.ex
  simp only [f__law_take, g__law_take, bodyFn, endR, padE, zseq, zret, zif, zpass, znext, zexpr, zasg, gset, gtup, gcons, gnil, zpar, setAll, sval, snew, snil, zsetB, zsetItem, celSet, zk, zvar, zop, toB, zand, zor, znot, zite, zchain, zcons, znil, ztup, zlstF, frz, celD, zcb, zcall, backR, zidx, zneg, zisi, zslice, onone, osome, zlenP, zbld, isBld, appendK, extendK, zlistF, listS, bind_ok, thenS_ok, ofO_some, List.getElem?_cons_zero, List.getElem?_cons_succ, List.set_cons_zero, List.set_cons_succ, List.length_cons, List.length_nil, List.map_cons, List.map_nil, List.replicate, List.cons_append, List.nil_append, List.append_nil, Nat.reduceAdd, Nat.reduceSub, Nat.zero_add, if_true, if_false, ite_true, ite_false, reduceIte, Bool.not_true, Bool.not_false, decide_true, decide_false, Bool.false_eq_true, isND, isNotND, addD, subD, cmpI, lenD, absD, intD, tupleD, Option.map_some, Option.bind_some, Option.bind, seqD, zseqI, idxD, isi_int_non, isi_int_bl, isi_int_int, isi_int_str, isi_int_tup, isi_int_lst, isi_int_dct, isi_bool_non, isi_bool_bl, isi_bool_int, isi_bool_str, isi_bool_tup, isi_bool_lst, isi_bool_dct, isi_tuple_non, isi_tuple_bl, isi_tuple_int, isi_tuple_str, isi_tuple_tup, isi_tuple_lst, isi_tuple_dct, isi_str_non, isi_str_bl, isi_str_int, isi_str_str, isi_str_tup, isi_str_lst, isi_str_dct, isi_list_non, isi_list_bl, isi_list_int, isi_list_str, isi_list_tup, isi_list_lst, isi_list_dct, isi_dict_non, isi_dict_bl, isi_dict_int, isi_dict_str, isi_dict_tup, isi_dict_lst, isi_dict_dct, hS, at0]
  by_cases ha : 0 < a
  · simp only [decide_eq_true ha, if_true, modB hu, fdivB (show u ≠ 0 by omega) hb (by decide), bodyFn, endR, padE, zseq, zret, zif, zpass, znext, zexpr, zasg, gset, gtup, gcons, gnil, zpar, setAll, sval, snew, snil, zsetB, zsetItem, celSet, zk, zvar, zop, toB, zand, zor, znot, zite, zchain, zcons, znil, ztup, zlstF, frz, celD, zcb, zcall, backR, zidx, zneg, zisi, zslice, onone, osome, zlenP, zbld, isBld, appendK, extendK, zlistF, listS, bind_ok, thenS_ok, ofO_some, List.getElem?_cons_zero, List.getElem?_cons_succ, List.set_cons_zero, List.set_cons_succ, List.length_cons, List.length_nil, List.map_cons, List.map_nil, List.replicate, List.cons_append, List.nil_append, List.append_nil, Nat.reduceAdd, Nat.reduceSub, Nat.zero_add, if_true, if_false, ite_true, ite_false, reduceIte, Bool.not_true, Bool.not_false, decide_true, decide_false, Bool.false_eq_true, isND, isNotND, addD, subD, cmpI, lenD, absD, intD, tupleD, Option.map_some, Option.bind_some, Option.bind, seqD, zseqI, idxD, isi_int_non, isi_int_bl, isi_int_int, isi_int_str, isi_int_tup, isi_int_lst, isi_int_dct, isi_bool_non, isi_bool_bl, isi_bool_int, isi_bool_str, isi_bool_tup, isi_bool_lst, isi_bool_dct, isi_tuple_non, isi_tuple_bl, isi_tuple_int, isi_tuple_str, isi_tuple_tup, isi_tuple_lst, isi_tuple_dct, isi_str_non, isi_str_bl, isi_str_int, isi_str_str, isi_str_tup, isi_str_lst, isi_str_dct, isi_list_non, isi_list_bl, isi_list_int, isi_list_str, isi_list_tup, isi_list_lst, isi_list_dct, isi_dict_non, isi_dict_bl, isi_dict_int, isi_dict_str, isi_dict_tup, isi_dict_lst, isi_dict_dct, hS, at0, ix0]
    obtain ⟨q0, q1⟩ := fdiv_bt a0 hu a1
    exact ⟨_, _, rfl, Int.emod_nonneg _ (by omega), Int.emod_lt_of_pos _ hu, ⟨_, _, _, set_at hS, q0, q1, b0, b1, c0, by omega⟩⟩
  · simp only [decide_eq_false ha, if_false, bodyFn, endR, padE, zseq, zret, zif, zpass, znext, zexpr, zasg, gset, gtup, gcons, gnil, zpar, setAll, sval, snew, snil, zsetB, zsetItem, celSet, zk, zvar, zop, toB, zand, zor, znot, zite, zchain, zcons, znil, ztup, zlstF, frz, celD, zcb, zcall, backR, zidx, zneg, zisi, zslice, onone, osome, zlenP, zbld, isBld, appendK, extendK, zlistF, listS, bind_ok, thenS_ok, ofO_some, List.getElem?_cons_zero, List.getElem?_cons_succ, List.set_cons_zero, List.set_cons_succ, List.length_cons, List.length_nil, List.map_cons, List.map_nil, List.replicate, List.cons_append, List.nil_append, List.append_nil, Nat.reduceAdd, Nat.reduceSub, Nat.zero_add, if_true, if_false, ite_true, ite_false, reduceIte, Bool.not_true, Bool.not_false, decide_true, decide_false, Bool.false_eq_true, isND, isNotND, addD, subD, cmpI, lenD, absD, intD, tupleD, Option.map_some, Option.bind_some, Option.bind, seqD, zseqI, idxD, isi_int_non, isi_int_bl, isi_int_int, isi_int_str, isi_int_tup, isi_int_lst, isi_int_dct, isi_bool_non, isi_bool_bl, isi_bool_int, isi_bool_str, isi_bool_tup, isi_bool_lst, isi_bool_dct, isi_tuple_non, isi_tuple_bl, isi_tuple_int, isi_tuple_str, isi_tuple_tup, isi_tuple_lst, isi_tuple_dct, isi_str_non, isi_str_bl, isi_str_int, isi_str_str, isi_str_tup, isi_str_lst, isi_str_dct, isi_list_non, isi_list_bl, isi_list_int, isi_list_str, isi_list_tup, isi_list_lst, isi_list_dct, isi_dict_non, isi_dict_bl, isi_dict_int, isi_dict_str, isi_dict_tup, isi_dict_lst, isi_dict_dct, hS, at0, at1, at2, ix2, set_at hS]
    have hc : Bt 20 (c + 1) := Bt.of (by omega) (by omega)
    obtain ⟨p, hp, p0, p1⟩ := at5 ((c + 1) % 5) (Int.emod_nonneg _ (by decide)) (Int.emod_lt_of_pos _ (by decide))
    simp only [modB (show (0 : Int) < 5 by decide), hp, small5, bodyFn, endR, padE, zseq, zret, zif, zpass, znext, zexpr, zasg, gset, gtup, gcons, gnil, zpar, setAll, sval, snew, snil, zsetB, zsetItem, celSet, zk, zvar, zop, toB, zand, zor, znot, zite, zchain, zcons, znil, ztup, zlstF, frz, celD, zcb, zcall, backR, zidx, zneg, zisi, zslice, onone, osome, zlenP, zbld, isBld, appendK, extendK, zlistF, listS, bind_ok, thenS_ok, ofO_some, List.getElem?_cons_zero, List.getElem?_cons_succ, List.set_cons_zero, List.set_cons_succ, List.length_cons, List.length_nil, List.map_cons, List.map_nil, List.replicate, List.cons_append, List.nil_append, List.append_nil, Nat.reduceAdd, Nat.reduceSub, Nat.zero_add, if_true, if_false, ite_true, ite_false, reduceIte, Bool.not_true, Bool.not_false, decide_true, decide_false, Bool.false_eq_true, isND, isNotND, addD, subD, cmpI, lenD, absD, intD, tupleD, Option.map_some, Option.bind_some, Option.bind, seqD, zseqI, idxD, isi_int_non, isi_int_bl, isi_int_int, isi_int_str, isi_int_tup, isi_int_lst, isi_int_dct, isi_bool_non, isi_bool_bl, isi_bool_int, isi_bool_str, isi_bool_tup, isi_bool_lst, isi_bool_dct, isi_tuple_non, isi_tuple_bl, isi_tuple_int, isi_tuple_str, isi_tuple_tup, isi_tuple_lst, isi_tuple_dct, isi_str_non, isi_str_bl, isi_str_int, isi_str_str, isi_str_tup, isi_str_lst, isi_str_dct, isi_list_non, isi_list_bl, isi_list_int, isi_list_str, isi_list_tup, isi_list_lst, isi_list_dct, isi_dict_non, isi_dict_bl, isi_dict_int, isi_dict_str, isi_dict_tup, isi_dict_lst, isi_dict_dct, hS, at0, at1, at2, ix2, set_at hS]
    have q1 : Bt 20 (98450 : Int) := Bt.lit (by decide)
    have q2 := q1.mul hc
    have q3 := q2.mul hc
    have q4 := b1.add q3
    have q5 := q4.add (show Bt 20 (149 : Int) from Bt.lit (by decide))
    have w1 : 0 ≤ 98450 * (c + 1) * (c + 1) := Int.mul_nonneg (Int.mul_nonneg (by decide) (by omega)) (by omega)
    simp only [mulB q1 hc (by decide), mulB q2 hc (by decide), bodyFn, endR, padE, zseq, zret, zif, zpass, znext, zexpr, zasg, gset, gtup, gcons, gnil, zpar, setAll, sval, snew, snil, zsetB, zsetItem, celSet, zk, zvar, zop, toB, zand, zor, znot, zite, zchain, zcons, znil, ztup, zlstF, frz, celD, zcb, zcall, backR, zidx, zneg, zisi, zslice, onone, osome, zlenP, zbld, isBld, appendK, extendK, zlistF, listS, bind_ok, thenS_ok, ofO_some, List.getElem?_cons_zero, List.getElem?_cons_succ, List.set_cons_zero, List.set_cons_succ, List.length_cons, List.length_nil, List.map_cons, List.map_nil, List.replicate, List.cons_append, List.nil_append, List.append_nil, Nat.reduceAdd, Nat.reduceSub, Nat.zero_add, if_true, if_false, ite_true, ite_false, reduceIte, Bool.not_true, Bool.not_false, decide_true, decide_false, Bool.false_eq_true, isND, isNotND, addD, subD, cmpI, lenD, absD, intD, tupleD, Option.map_some, Option.bind_some, Option.bind, seqD, zseqI, idxD, isi_int_non, isi_int_bl, isi_int_int, isi_int_str, isi_int_tup, isi_int_lst, isi_int_dct, isi_bool_non, isi_bool_bl, isi_bool_int, isi_bool_str, isi_bool_tup, isi_bool_lst, isi_bool_dct, isi_tuple_non, isi_tuple_bl, isi_tuple_int, isi_tuple_str, isi_tuple_tup, isi_tuple_lst, isi_tuple_dct, isi_str_non, isi_str_bl, isi_str_int, isi_str_str, isi_str_tup, isi_str_lst, isi_str_dct, isi_list_non, isi_list_bl, isi_list_int, isi_list_str, isi_list_tup, isi_list_lst, isi_list_dct, isi_dict_non, isi_dict_bl, isi_dict_int, isi_dict_str, isi_dict_tup, isi_dict_lst, isi_dict_dct, hS, at0, at1, at2, ix2, set_at hS]
    have e3 : powD (.int (b + 98450 * (c + 1) * (c + 1) + 149)) (.int 3) = some (.int ((b + 98450 * (c + 1) * (c + 1) + 149) ^ 3)) := powB 3 q5 (by decide) (by decide)
    have hp2 : Bt 31 p := Bt.of (by omega) p1
    have q6 : Bt 31 ((b + 98450 * (c + 1) * (c + 1) + 149) ^ 3 % p) := Bt.emod p0 hp2
    have q7 : Bt 20 ((b + 98450 * (c + 1) * (c + 1) + 149) ^ 3 % p % 10333) := Bt.emod (by decide) (Bt.lit (by decide))
    have q8 : Bt 20 (187 : Int) := Bt.lit (by decide)
    have q9 := q7.add (q8.mul hc)
    simp only [e3, modB p0, modB (show (0 : Int) < 10333 by decide), mulB q8 hc (by decide), mulB q6 q9 (by decide), modB (show (0 : Int) < 2305843009213693907 by decide), fdivB (show (163 : Int) ≠ 0 by decide) (show Bt 20 163 from Bt.lit (by decide)) (by decide), modB hu, bodyFn, endR, padE, zseq, zret, zif, zpass, znext, zexpr, zasg, gset, gtup, gcons, gnil, zpar, setAll, sval, snew, snil, zsetB, zsetItem, celSet, zk, zvar, zop, toB, zand, zor, znot, zite, zchain, zcons, znil, ztup, zlstF, frz, celD, zcb, zcall, backR, zidx, zneg, zisi, zslice, onone, osome, zlenP, zbld, isBld, appendK, extendK, zlistF, listS, bind_ok, thenS_ok, ofO_some, List.getElem?_cons_zero, List.getElem?_cons_succ, List.set_cons_zero, List.set_cons_succ, List.length_cons, List.length_nil, List.map_cons, List.map_nil, List.replicate, List.cons_append, List.nil_append, List.append_nil, Nat.reduceAdd, Nat.reduceSub, Nat.zero_add, if_true, if_false, ite_true, ite_false, reduceIte, Bool.not_true, Bool.not_false, decide_true, decide_false, Bool.false_eq_true, isND, isNotND, addD, subD, cmpI, lenD, absD, intD, tupleD, Option.map_some, Option.bind_some, Option.bind, seqD, zseqI, idxD, isi_int_non, isi_int_bl, isi_int_int, isi_int_str, isi_int_tup, isi_int_lst, isi_int_dct, isi_bool_non, isi_bool_bl, isi_bool_int, isi_bool_str, isi_bool_tup, isi_bool_lst, isi_bool_dct, isi_tuple_non, isi_tuple_bl, isi_tuple_int, isi_tuple_str, isi_tuple_tup, isi_tuple_lst, isi_tuple_dct, isi_str_non, isi_str_bl, isi_str_int, isi_str_str, isi_str_tup, isi_str_lst, isi_str_dct, isi_list_non, isi_list_bl, isi_list_int, isi_list_str, isi_list_tup, isi_list_lst, isi_list_dct, isi_dict_non, isi_dict_bl, isi_dict_int, isi_dict_str, isi_dict_tup, isi_dict_lst, isi_dict_dct, hS, at0, at1, at2, ix2, set_at hS]
    exact ⟨_, _, rfl, Int.emod_nonneg _ (by omega), Int.emod_lt_of_pos _ hu, ⟨_, _, _, set_at hS, a0, a1, b0, b1, by omega, by omega⟩⟩
theorem e__law_of {S : List (List D)} {n k : Nat} {xs : List D} (h : PotAt S n k) (hk : k < 1000000) (h0 : xs ≠ []) (hl : xs.length < 1000000) : ∃ d S', f__law_of [.cel n, .lst xs] S = .ok d S' ∧ d ∈ xs ∧ PotAt S' n (k + 1) := by
  have h1 : 0 < xs.length := List.length_pos_iff.mpr h0
  obtain ⟨r, S', e, r0, r1, q⟩ := e__law_take (u := (xs.length : Int)) h hk (by omega) (Bt.of (by omega) (by omega))
  simp only [f__law_of, g__law_of, bodyFn, endR, padE, zseq, zret, zif, zpass, znext, zexpr, zasg, gset, gtup, gcons, gnil, zpar, setAll, sval, snew, snil, zsetB, zsetItem, celSet, zk, zvar, zop, toB, zand, zor, znot, zite, zchain, zcons, znil, ztup, zlstF, frz, celD, zcb, zcall, backR, zidx, zneg, zisi, zslice, onone, osome, zlenP, zbld, isBld, appendK, extendK, zlistF, listS, bind_ok, thenS_ok, ofO_some, List.getElem?_cons_zero, List.getElem?_cons_succ, List.set_cons_zero, List.set_cons_succ, List.length_cons, List.length_nil, List.map_cons, List.map_nil, List.replicate, List.cons_append, List.nil_append, List.append_nil, Nat.reduceAdd, Nat.reduceSub, Nat.zero_add, if_true, if_false, ite_true, ite_false, reduceIte, Bool.not_true, Bool.not_false, decide_true, decide_false, Bool.false_eq_true, isND, isNotND, addD, subD, cmpI, lenD, absD, intD, tupleD, Option.map_some, Option.bind_some, Option.bind, seqD, zseqI, idxD, isi_int_non, isi_int_bl, isi_int_int, isi_int_str, isi_int_tup, isi_int_lst, isi_int_dct, isi_bool_non, isi_bool_bl, isi_bool_int, isi_bool_str, isi_bool_tup, isi_bool_lst, isi_bool_dct, isi_tuple_non, isi_tuple_bl, isi_tuple_int, isi_tuple_str, isi_tuple_tup, isi_tuple_lst, isi_tuple_dct, isi_str_non, isi_str_bl, isi_str_int, isi_str_str, isi_str_tup, isi_str_lst, isi_str_dct, isi_list_non, isi_list_bl, isi_list_int, isi_list_str, isi_list_tup, isi_list_lst, isi_list_dct, isi_dict_non, isi_dict_bl, isi_dict_int, isi_dict_str, isi_dict_tup, isi_dict_lst, isi_dict_dct, e, atN r0 (show r.toNat < xs.length by omega)]
  exact ⟨_, _, rfl, List.getElem_mem _, q⟩
theorem e__law_pot (ns : List Int) (i : Nat) (hi : i < 64) (S : List (List D)) : ∃ S', f__law_pot [.scr ns, .int i] S = .ok (.cel S.length) S' ∧ PotAt S' S.length 0 := by
  obtain ⟨x, ex⟩ : ∃ x, (if (i : Int) < ns.length then (atI ns i) else some (445 * (i : Int) + 99)) = some x := by
    by_cases h : (i : Int) < ns.length
    · rw [if_pos h]
      exact ⟨_, atN (by omega) (by omega)⟩
    · rw [if_neg h]
      exact ⟨_, rfl⟩
  have hb : Bt 10 (i : Int) := Bt.of (by omega) (by omega)
  have b1 : Bt 20 (445 : Int) := Bt.lit (by decide)
  have key : ∀ m, zite (zop ltD (zvar 1) (zcb lenD (zcons (zvar 0) znil))) (zidx (zvar 0) (zvar 1)) (zop addD (zop mulZ (zk (.int 445)) (zvar 1)) (zk (.int 99))) ⟨.val (.scr ns) :: .val (.int i) :: m, S⟩ = .ok (.int x) ⟨.val (.scr ns) :: .val (.int i) :: m, S⟩ := by
    intro m
    simp only [bodyFn, endR, padE, zseq, zret, zif, zpass, znext, zexpr, zasg, gset, gtup, gcons, gnil, zpar, setAll, sval, snew, snil, zsetB, zsetItem, celSet, zk, zvar, zop, toB, zand, zor, znot, zite, zchain, zcons, znil, ztup, zlstF, frz, celD, zcb, zcall, backR, zidx, zneg, zisi, zslice, onone, osome, zlenP, zbld, isBld, appendK, extendK, zlistF, listS, bind_ok, thenS_ok, ofO_some, List.getElem?_cons_zero, List.getElem?_cons_succ, List.set_cons_zero, List.set_cons_succ, List.length_cons, List.length_nil, List.map_cons, List.map_nil, List.replicate, List.cons_append, List.nil_append, List.append_nil, Nat.reduceAdd, Nat.reduceSub, Nat.zero_add, if_true, if_false, ite_true, ite_false, reduceIte, Bool.not_true, Bool.not_false, decide_true, decide_false, Bool.false_eq_true, isND, isNotND, addD, subD, cmpI, lenD, absD, intD, tupleD, Option.map_some, Option.bind_some, Option.bind, seqD, zseqI, idxD, isi_int_non, isi_int_bl, isi_int_int, isi_int_str, isi_int_tup, isi_int_lst, isi_int_dct, isi_bool_non, isi_bool_bl, isi_bool_int, isi_bool_str, isi_bool_tup, isi_bool_lst, isi_bool_dct, isi_tuple_non, isi_tuple_bl, isi_tuple_int, isi_tuple_str, isi_tuple_tup, isi_tuple_lst, isi_tuple_dct, isi_str_non, isi_str_bl, isi_str_int, isi_str_str, isi_str_tup, isi_str_lst, isi_str_dct, isi_list_non, isi_list_bl, isi_list_int, isi_list_str, isi_list_tup, isi_list_lst, isi_list_dct, isi_dict_non, isi_dict_bl, isi_dict_int, isi_dict_str, isi_dict_tup, isi_dict_lst, isi_dict_dct]
    by_cases h : (i : Int) < ns.length
    · rw [if_pos h] at ex
      simp only [decide_eq_true h, if_true, bodyFn, endR, padE, zseq, zret, zif, zpass, znext, zexpr, zasg, gset, gtup, gcons, gnil, zpar, setAll, sval, snew, snil, zsetB, zsetItem, celSet, zk, zvar, zop, toB, zand, zor, znot, zite, zchain, zcons, znil, ztup, zlstF, frz, celD, zcb, zcall, backR, zidx, zneg, zisi, zslice, onone, osome, zlenP, zbld, isBld, appendK, extendK, zlistF, listS, bind_ok, thenS_ok, ofO_some, List.getElem?_cons_zero, List.getElem?_cons_succ, List.set_cons_zero, List.set_cons_succ, List.length_cons, List.length_nil, List.map_cons, List.map_nil, List.replicate, List.cons_append, List.nil_append, List.append_nil, Nat.reduceAdd, Nat.reduceSub, Nat.zero_add, if_true, if_false, ite_true, ite_false, reduceIte, Bool.not_true, Bool.not_false, decide_true, decide_false, Bool.false_eq_true, isND, isNotND, addD, subD, cmpI, lenD, absD, intD, tupleD, Option.map_some, Option.bind_some, Option.bind, seqD, zseqI, idxD, isi_int_non, isi_int_bl, isi_int_int, isi_int_str, isi_int_tup, isi_int_lst, isi_int_dct, isi_bool_non, isi_bool_bl, isi_bool_int, isi_bool_str, isi_bool_tup, isi_bool_lst, isi_bool_dct, isi_tuple_non, isi_tuple_bl, isi_tuple_int, isi_tuple_str, isi_tuple_tup, isi_tuple_lst, isi_tuple_dct, isi_str_non, isi_str_bl, isi_str_int, isi_str_str, isi_str_tup, isi_str_lst, isi_str_dct, isi_list_non, isi_list_bl, isi_list_int, isi_list_str, isi_list_tup, isi_list_lst, isi_list_dct, isi_dict_non, isi_dict_bl, isi_dict_int, isi_dict_str, isi_dict_tup, isi_dict_lst, isi_dict_dct, ex]
    · rw [if_neg h] at ex
      simp only [decide_eq_false h, if_false, mulB b1 hb (by decide), bodyFn, endR, padE, zseq, zret, zif, zpass, znext, zexpr, zasg, gset, gtup, gcons, gnil, zpar, setAll, sval, snew, snil, zsetB, zsetItem, celSet, zk, zvar, zop, toB, zand, zor, znot, zite, zchain, zcons, znil, ztup, zlstF, frz, celD, zcb, zcall, backR, zidx, zneg, zisi, zslice, onone, osome, zlenP, zbld, isBld, appendK, extendK, zlistF, listS, bind_ok, thenS_ok, ofO_some, List.getElem?_cons_zero, List.getElem?_cons_succ, List.set_cons_zero, List.set_cons_succ, List.length_cons, List.length_nil, List.map_cons, List.map_nil, List.replicate, List.cons_append, List.nil_append, List.append_nil, Nat.reduceAdd, Nat.reduceSub, Nat.zero_add, if_true, if_false, ite_true, ite_false, reduceIte, Bool.not_true, Bool.not_false, decide_true, decide_false, Bool.false_eq_true, isND, isNotND, addD, subD, cmpI, lenD, absD, intD, tupleD, Option.map_some, Option.bind_some, Option.bind, seqD, zseqI, idxD, isi_int_non, isi_int_bl, isi_int_int, isi_int_str, isi_int_tup, isi_int_lst, isi_int_dct, isi_bool_non, isi_bool_bl, isi_bool_int, isi_bool_str, isi_bool_tup, isi_bool_lst, isi_bool_dct, isi_tuple_non, isi_tuple_bl, isi_tuple_int, isi_tuple_str, isi_tuple_tup, isi_tuple_lst, isi_tuple_dct, isi_str_non, isi_str_bl, isi_str_int, isi_str_str, isi_str_tup, isi_str_lst, isi_str_dct, isi_list_non, isi_list_bl, isi_list_int, isi_list_str, isi_list_tup, isi_list_lst, isi_list_dct, isi_dict_non, isi_dict_bl, isi_dict_int, isi_dict_str, isi_dict_tup, isi_dict_lst, isi_dict_dct]
      cases ex
      simp
  have e1 : powD (.int 10) (.int 60) = some (.int (10 ^ 60)) := powC (by decide)
  have e2 : powD (.int (10 ^ 60)) (.int 5) = some (.int (10 ^ 300)) := powC (by decide +kernel)
  have e3 : powD (.int 10) (.int 18) = some (.int (10 ^ 18)) := powC (by decide)
  have c1 : (0 : Int) < 10 ^ 300 := by decide
  have b2 : Bt 1000 ((x.natAbs : Int) % 10 ^ 300) := Bt.emod c1 (Bt.lit (by decide +kernel))
  have b3 : Bt 61 (x % 2305843009213693951) := Bt.emod (by decide) (Bt.lit (by decide))
  have b4 : Bt 20 (75017 : Int) := Bt.lit (by decide)
  have b5 : Bt 20 (7235 : Int) := Bt.lit (by decide)
  simp only [f__law_pot, g__law_pot, bodyFn, padE, List.length_cons, List.length_nil, if_true, List.map_cons, List.map_nil, List.cons_append, List.nil_append, zseq, zasg, key]
  obtain ⟨y, ey⟩ : ∃ y : Int, y = (if decide ((10 : Int) ^ 18 ≤ (x.natAbs : Int)) = true then 1 else 0) := ⟨_, rfl⟩
  have b6 : Bt 2 y := by
    rw [ey]
    split <;> exact Bt.lit (by decide)
  have y0 : 0 ≤ y ∧ y ≤ 1 := by
    rw [ey]
    split <;> decide
  simp only [absN, e1, e2, e3, modB c1, modB (show (0 : Int) < 2305843009213693951 by decide), modB (show (0 : Int) < 2305843009213693921 by decide), mulB b3 b4 (by decide), mulB b5 hb (by decide), mulB (b5.mul hb) hb (by decide), ← ey, mulB b2 b6 (by decide), small3, bodyFn, endR, padE, zseq, zret, zif, zpass, znext, zexpr, zasg, gset, gtup, gcons, gnil, zpar, setAll, sval, snew, snil, zsetB, zsetItem, celSet, zk, zvar, zop, toB, zand, zor, znot, zite, zchain, zcons, znil, ztup, zlstF, frz, celD, zcb, zcall, backR, zidx, zneg, zisi, zslice, onone, osome, zlenP, zbld, isBld, appendK, extendK, zlistF, listS, bind_ok, thenS_ok, ofO_some, List.getElem?_cons_zero, List.getElem?_cons_succ, List.set_cons_zero, List.set_cons_succ, List.length_cons, List.length_nil, List.map_cons, List.map_nil, List.replicate, List.cons_append, List.nil_append, List.append_nil, Nat.reduceAdd, Nat.reduceSub, Nat.zero_add, if_true, if_false, ite_true, ite_false, reduceIte, Bool.not_true, Bool.not_false, decide_true, decide_false, Bool.false_eq_true, isND, isNotND, addD, subD, cmpI, lenD, absD, intD, tupleD, Option.map_some, Option.bind_some, Option.bind, seqD, zseqI, idxD, isi_int_non, isi_int_bl, isi_int_int, isi_int_str, isi_int_tup, isi_int_lst, isi_int_dct, isi_bool_non, isi_bool_bl, isi_bool_int, isi_bool_str, isi_bool_tup, isi_bool_lst, isi_bool_dct, isi_tuple_non, isi_tuple_bl, isi_tuple_int, isi_tuple_str, isi_tuple_tup, isi_tuple_lst, isi_tuple_dct, isi_str_non, isi_str_bl, isi_str_int, isi_str_str, isi_str_tup, isi_str_lst, isi_str_dct, isi_list_non, isi_list_bl, isi_list_int, isi_list_str, isi_list_tup, isi_list_lst, isi_list_dct, isi_dict_non, isi_dict_bl, isi_dict_int, isi_dict_str, isi_dict_tup, isi_dict_lst, isi_dict_dct]
  refine ⟨_, rfl, ⟨_, _, _, snoc_at, ?_, ?_, Int.emod_nonneg _ (by decide), Bt.emod (by decide) (Bt.lit (by decide)), by decide, by simp⟩⟩
  · exact Int.mul_nonneg (Int.emod_nonneg _ (by decide)) y0.1
  · have : y = 0 ∨ y = 1 := by omega
    rcases this with h | h
    · rw [h, Int.mul_zero]; exact Bt.lit (by decide)
    · rw [h, Int.mul_one]; exact b2
theorem e__law_cells (ns : List Int) (c : Int) (S : List (List D)) (hc : 1 ≤ c ∧ c ≤ 63) (hn : ns.length ≤ 63) : ∃ j : Nat, j ≤ 63 ∧ f__law_cells [.scr ns, .int c] S = .ok (.lst ((List.range j).map fun i => .int (i : Nat))) S := by
  simp only [f__law_cells, g__law_cells, bodyFn, endR, padE, zseq, zret, zif, zpass, znext, zexpr, zasg, gset, gtup, gcons, gnil, zpar, setAll, sval, snew, snil, zsetB, zsetItem, celSet, zk, zvar, zop, toB, zand, zor, znot, zite, zchain, zcons, znil, ztup, zlstF, frz, celD, zcb, zcall, backR, zidx, zneg, zisi, zslice, onone, osome, zlenP, zbld, isBld, appendK, extendK, zlistF, listS, bind_ok, thenS_ok, ofO_some, List.getElem?_cons_zero, List.getElem?_cons_succ, List.set_cons_zero, List.set_cons_succ, List.length_cons, List.length_nil, List.map_cons, List.map_nil, List.replicate, List.cons_append, List.nil_append, List.append_nil, Nat.reduceAdd, Nat.reduceSub, Nat.zero_add, if_true, if_false, ite_true, ite_false, reduceIte, Bool.not_true, Bool.not_false, decide_true, decide_false, Bool.false_eq_true, isND, isNotND, addD, subD, cmpI, lenD, absD, intD, tupleD, Option.map_some, Option.bind_some, Option.bind, seqD, zseqI, idxD, isi_int_non, isi_int_bl, isi_int_int, isi_int_str, isi_int_tup, isi_int_lst, isi_int_dct, isi_bool_non, isi_bool_bl, isi_bool_int, isi_bool_str, isi_bool_tup, isi_bool_lst, isi_bool_dct, isi_tuple_non, isi_tuple_bl, isi_tuple_int, isi_tuple_str, isi_tuple_tup, isi_tuple_lst, isi_tuple_dct, isi_str_non, isi_str_bl, isi_str_int, isi_str_str, isi_str_tup, isi_str_lst, isi_str_dct, isi_list_non, isi_list_bl, isi_list_int, isi_list_str, isi_list_tup, isi_list_lst, isi_list_dct, isi_dict_non, isi_dict_bl, isi_dict_int, isi_dict_str, isi_dict_tup, isi_dict_lst, isi_dict_dct, maxD, minD, zlistRg, rangeF, range2D]
  have h1 : ∃ j : Nat, j ≤ 63 ∧ (if (if (ns.length : Int) < c then (ns.length : Int) else c) > 1 then (if (ns.length : Int) < c then (ns.length : Int) else c) else 1) = (j : Int) := by
    refine ⟨(if (if (ns.length : Int) < c then (ns.length : Int) else c) > 1 then (if (ns.length : Int) < c then (ns.length : Int) else c) else 1).toNat, ?_, ?_⟩ <;> (split <;> split <;> omega)
  obtain ⟨j, hj, e⟩ := h1
  refine ⟨j, hj, ?_⟩
  simp only [e, Int.sub_zero, Int.toNat_natCast, Int.zero_add]
  rw [if_pos (decide_eq_true (by omega))]
  rfl
end Z

set_option Elab.async false
set_option linter.all false
set_option maxRecDepth 100000
set_option maxHeartbeats 2000000
namespace Z
open PySem PySem.Spec PyProof.Rows L2 RZ
theorem erase_perm {α : Type} : ∀ (l : List α) (i : Nat) (h : i < l.length), (l[i] :: l.eraseIdx i).Perm l
  | a :: l, 0, _ => .refl _
  | a :: l, i + 1, h => by
    have ih := erase_perm l i (by simpa using h)
    simp only [List.getElem_cons_succ, List.eraseIdx_cons_succ]
    exact (List.Perm.swap _ _ _).trans (.cons _ ih)
theorem w_some {n : Nat} {d1 d2 : D} : ∀ (ds : List D) (lap : Sl) (rest found : List D) (S : List (List D)) (k : Nat), PotAt S n k → ds.length ≤ rest.length → rest.length + found.length < 100000 → k + ds.length < 1000000 →
    ∃ lap' rest' found' S', forL (gset 3) (zseq (zexpr (zbld 5 (zcons (zbld 4 (zcons (zcall f__law_take [] (zcons (zvar 0) (zcons (zlenP 4) znil))) znil) popK) znil) appendK)) znext) ds ⟨[.val (.cel n), .val d1, .val d2, lap, .bld rest, .bld found], S⟩
      = .nx ⟨[.val (.cel n), .val d1, .val d2, lap', .bld rest', .bld found'], S'⟩ ∧ PotAt S' n (k + ds.length) ∧ (found' ++ rest').Perm (found ++ rest) ∧ found'.length = found.length + ds.length
  | [], lap, rest, found, S, k, h, _, _, _ => ⟨lap, rest, found, S, rfl, h, .refl _, rfl⟩
  | d :: ds, lap, rest, found, S, k, h, hl, hs, hk => by
    rw [List.length_cons] at hl hk
    obtain ⟨r, S', e, r0, r1, q⟩ := e__law_take (u := (rest.length : Int)) h (by omega) (by omega) (Bt.of (by omega) (by omega))
    have hr : r.toNat < rest.length := by omega
    have s1 : small found.length = true := decide_eq_true (by omega)
    have e1 : (rest.eraseIdx r.toNat).length = rest.length - 1 := List.length_eraseIdx_of_lt hr
    have hz : small rest.length = true := decide_eq_true (by omega)
    obtain ⟨lap', rest', found', S2, h1, h2, h3, h4⟩ := w_some ds (.val d) (rest.eraseIdx r.toNat) (found ++ [rest[r.toNat]]) S' (k + 1) q (by omega) (by rw [e1, List.length_append, List.length_singleton]; omega) (by omega)
    refine ⟨lap', rest', found', S2, ?_, h2.mono (by rw [List.length_cons]; omega), h3.trans ?_, by rw [h4, List.length_append, List.length_singleton, List.length_cons]; omega⟩
    · unfold forL
      simp only [bodyFn, endR, padE, zseq, zret, zif, zpass, znext, zexpr, zasg, gset, gtup, gcons, gnil, zpar, setAll, sval, snew, snil, zsetB, zsetItem, celSet, zk, zvar, zop, toB, zand, zor, znot, zite, zchain, zcons, znil, ztup, zlstF, frz, celD, zcb, zcall, backR, zidx, zneg, zisi, zslice, onone, osome, zlenP, zbld, isBld, appendK, extendK, zlistF, listS, bind_ok, thenS_ok, ofO_some, List.getElem?_cons_zero, List.getElem?_cons_succ, List.set_cons_zero, List.set_cons_succ, List.length_cons, List.length_nil, List.map_cons, List.map_nil, List.replicate, List.cons_append, List.nil_append, List.append_nil, Nat.reduceAdd, Nat.reduceSub, Nat.zero_add, if_true, if_false, ite_true, ite_false, reduceIte, Bool.not_true, Bool.not_false, decide_true, decide_false, Bool.false_eq_true, isND, isNotND, addD, subD, cmpI, lenD, absD, intD, tupleD, Option.map_some, Option.bind_some, Option.bind, seqD, zseqI, idxD, isi_int_non, isi_int_bl, isi_int_int, isi_int_str, isi_int_tup, isi_int_lst, isi_int_dct, isi_bool_non, isi_bool_bl, isi_bool_int, isi_bool_str, isi_bool_tup, isi_bool_lst, isi_bool_dct, isi_tuple_non, isi_tuple_bl, isi_tuple_int, isi_tuple_str, isi_tuple_tup, isi_tuple_lst, isi_tuple_dct, isi_str_non, isi_str_bl, isi_str_int, isi_str_str, isi_str_tup, isi_str_lst, isi_str_dct, isi_list_non, isi_list_bl, isi_list_int, isi_list_str, isi_list_tup, isi_list_lst, isi_list_dct, isi_dict_non, isi_dict_bl, isi_dict_int, isi_dict_str, isi_dict_tup, isi_dict_lst, isi_dict_dct, popK, e, decide_eq_true (show 0 ≤ r ∧ r < 1000000 by omega), if_true, List.getElem?_eq_getElem hr, s1, hz]
      exact h1
    · rw [List.append_assoc, List.singleton_append]
      exact List.Perm.append_left _ (erase_perm _ _ hr)
theorem e__law_some {S : List (List D)} {n k : Nat} {pool : List D} {many : Nat} (h : PotAt S n k) (hm : many ≤ pool.length) (hp : pool.length < 10000) (hk : k + many < 1000000) :
    ∃ found rest S', f__law_some [.cel n, .lst pool, .int many] S = .ok (.lst found) S' ∧ PotAt S' n (k + many) ∧ (found ++ rest).Perm pool ∧ found.length = many := by
  have hl : ((List.range many).map fun i => D.int (i : Nat)).length = many := by simp
  obtain ⟨lap', rest', found', S2, h1, h2, h3, h4⟩ := w_some (n := n) (d1 := .lst pool) (d2 := .int many) ((List.range many).map fun i => D.int (i : Nat)) .un pool [] S k h (by omega) (by simp; omega) (by omega)
  rw [hl] at h2 h4
  refine ⟨found', rest', S2, ?_, h2, h3, by simpa using h4⟩
  refine fnR (e := [.val (.cel n), .val (.lst pool), .val (.int many), lap', .bld rest', .val (.lst found')]) ?_
  refine (sq1 (m1 := ⟨[.val (.cel n), .val (.lst pool), .val (.int many), .un, .bld pool, .bld []], S⟩) ?_).trans ((sq1 ((for1 ?_).trans h1)).trans (sq2 (rt1 ?_)))
  · simp only [padE, ↓zlstF_nil, bodyFn, endR, padE, zseq, zret, zif, zpass, znext, zexpr, zasg, gset, gtup, gcons, gnil, zpar, setAll, sval, snew, snil, zsetB, zsetItem, celSet, zk, zvar, zop, toB, zand, zor, znot, zite, zchain, zcons, znil, ztup, zlstF, frz, celD, zcb, zcall, backR, zidx, zneg, zisi, zslice, onone, osome, zlenP, zbld, isBld, appendK, extendK, zlistF, listS, bind_ok, thenS_ok, ofO_some, List.getElem?_cons_zero, List.getElem?_cons_succ, List.set_cons_zero, List.set_cons_succ, List.length_cons, List.length_nil, List.map_cons, List.map_nil, List.replicate, List.cons_append, List.nil_append, List.append_nil, Nat.reduceAdd, Nat.reduceSub, Nat.zero_add, if_true, if_false, ite_true, ite_false, reduceIte, Bool.not_true, Bool.not_false, decide_true, decide_false, Bool.false_eq_true, isND, isNotND, addD, subD, cmpI, lenD, absD, intD, tupleD, Option.map_some, Option.bind_some, Option.bind, seqD, zseqI, idxD, isi_int_non, isi_int_bl, isi_int_int, isi_int_str, isi_int_tup, isi_int_lst, isi_int_dct, isi_bool_non, isi_bool_bl, isi_bool_int, isi_bool_str, isi_bool_tup, isi_bool_lst, isi_bool_dct, isi_tuple_non, isi_tuple_bl, isi_tuple_int, isi_tuple_str, isi_tuple_tup, isi_tuple_lst, isi_tuple_dct, isi_str_non, isi_str_bl, isi_str_int, isi_str_str, isi_str_tup, isi_str_lst, isi_str_dct, isi_list_non, isi_list_bl, isi_list_int, isi_list_str, isi_list_tup, isi_list_lst, isi_list_dct, isi_dict_non, isi_dict_bl, isi_dict_int, isi_dict_str, isi_dict_tup, isi_dict_lst, isi_dict_dct]
  · exact zrange1 (by simp only [bodyFn, endR, padE, zseq, zret, zif, zpass, znext, zexpr, zasg, gset, gtup, gcons, gnil, zpar, setAll, sval, snew, snil, zsetB, zsetItem, celSet, zk, zvar, zop, toB, zand, zor, znot, zite, zchain, zcons, znil, ztup, zlstF, frz, celD, zcb, zcall, backR, zidx, zneg, zisi, zslice, onone, osome, zlenP, zbld, isBld, appendK, extendK, zlistF, listS, bind_ok, thenS_ok, ofO_some, List.getElem?_cons_zero, List.getElem?_cons_succ, List.set_cons_zero, List.set_cons_succ, List.length_cons, List.length_nil, List.map_cons, List.map_nil, List.replicate, List.cons_append, List.nil_append, List.append_nil, Nat.reduceAdd, Nat.reduceSub, Nat.zero_add, if_true, if_false, ite_true, ite_false, reduceIte, Bool.not_true, Bool.not_false, decide_true, decide_false, Bool.false_eq_true, isND, isNotND, addD, subD, cmpI, lenD, absD, intD, tupleD, Option.map_some, Option.bind_some, Option.bind, seqD, zseqI, idxD, isi_int_non, isi_int_bl, isi_int_int, isi_int_str, isi_int_tup, isi_int_lst, isi_int_dct, isi_bool_non, isi_bool_bl, isi_bool_int, isi_bool_str, isi_bool_tup, isi_bool_lst, isi_bool_dct, isi_tuple_non, isi_tuple_bl, isi_tuple_int, isi_tuple_str, isi_tuple_tup, isi_tuple_lst, isi_tuple_dct, isi_str_non, isi_str_bl, isi_str_int, isi_str_str, isi_str_tup, isi_str_lst, isi_str_dct, isi_list_non, isi_list_bl, isi_list_int, isi_list_str, isi_list_tup, isi_list_lst, isi_list_dct, isi_dict_non, isi_dict_bl, isi_dict_int, isi_dict_str, isi_dict_tup, isi_dict_lst, isi_dict_dct]) (by omega)
  · simp only [bodyFn, endR, padE, zseq, zret, zif, zpass, znext, zexpr, zasg, gset, gtup, gcons, gnil, zpar, setAll, sval, snew, snil, zsetB, zsetItem, celSet, zk, zvar, zop, toB, zand, zor, znot, zite, zchain, zcons, znil, ztup, zlstF, frz, celD, zcb, zcall, backR, zidx, zneg, zisi, zslice, onone, osome, zlenP, zbld, isBld, appendK, extendK, zlistF, listS, bind_ok, thenS_ok, ofO_some, List.getElem?_cons_zero, List.getElem?_cons_succ, List.set_cons_zero, List.set_cons_succ, List.length_cons, List.length_nil, List.map_cons, List.map_nil, List.replicate, List.cons_append, List.nil_append, List.append_nil, Nat.reduceAdd, Nat.reduceSub, Nat.zero_add, if_true, if_false, ite_true, ite_false, reduceIte, Bool.not_true, Bool.not_false, decide_true, decide_false, Bool.false_eq_true, isND, isNotND, addD, subD, cmpI, lenD, absD, intD, tupleD, Option.map_some, Option.bind_some, Option.bind, seqD, zseqI, idxD, isi_int_non, isi_int_bl, isi_int_int, isi_int_str, isi_int_tup, isi_int_lst, isi_int_dct, isi_bool_non, isi_bool_bl, isi_bool_int, isi_bool_str, isi_bool_tup, isi_bool_lst, isi_bool_dct, isi_tuple_non, isi_tuple_bl, isi_tuple_int, isi_tuple_str, isi_tuple_tup, isi_tuple_lst, isi_tuple_dct, isi_str_non, isi_str_bl, isi_str_int, isi_str_str, isi_str_tup, isi_str_lst, isi_str_dct, isi_list_non, isi_list_bl, isi_list_int, isi_list_str, isi_list_tup, isi_list_lst, isi_list_dct, isi_dict_non, isi_dict_bl, isi_dict_int, isi_dict_str, isi_dict_tup, isi_dict_lst, isi_dict_dct]
end Z

set_option Elab.async false
set_option linter.all false
set_option maxRecDepth 100000
set_option maxHeartbeats 2000000
namespace Z
open PySem PySem.Spec PyProof.Rows L2 RZ
/-! the module's fractions -/
theorem e_is_integer0 (a : Int) (S : List (List D)) : f_is_integer [.int a, .non, .non] S = .ok (.bl true) S := by
  simp only [f_is_integer, g_is_integer, bodyFn, endR, padE, zseq, zret, zif, zpass, znext, zexpr, zasg, gset, gtup, gcons, gnil, zpar, setAll, sval, snew, snil, zsetB, zsetItem, celSet, zk, zvar, zop, toB, zand, zor, znot, zite, zchain, zcons, znil, ztup, zlstF, frz, celD, zcb, zcall, backR, zidx, zneg, zisi, zslice, onone, osome, zlenP, zbld, isBld, appendK, extendK, zlistF, listS, bind_ok, thenS_ok, ofO_some, List.getElem?_cons_zero, List.getElem?_cons_succ, List.set_cons_zero, List.set_cons_succ, List.length_cons, List.length_nil, List.map_cons, List.map_nil, List.replicate, List.cons_append, List.nil_append, List.append_nil, Nat.reduceAdd, Nat.reduceSub, Nat.zero_add, if_true, if_false, ite_true, ite_false, reduceIte, Bool.not_true, Bool.not_false, decide_true, decide_false, Bool.false_eq_true, isND, isNotND, addD, subD, cmpI, lenD, absD, intD, tupleD, Option.map_some, Option.bind_some, Option.bind, seqD, zseqI, idxD, isi_int_non, isi_int_bl, isi_int_int, isi_int_str, isi_int_tup, isi_int_lst, isi_int_dct, isi_bool_non, isi_bool_bl, isi_bool_int, isi_bool_str, isi_bool_tup, isi_bool_lst, isi_bool_dct, isi_tuple_non, isi_tuple_bl, isi_tuple_int, isi_tuple_str, isi_tuple_tup, isi_tuple_lst, isi_tuple_dct, isi_str_non, isi_str_bl, isi_str_int, isi_str_str, isi_str_tup, isi_str_lst, isi_str_dct, isi_list_non, isi_list_bl, isi_list_int, isi_list_str, isi_list_tup, isi_list_lst, isi_list_dct, isi_dict_non, isi_dict_bl, isi_dict_int, isi_dict_str, isi_dict_tup, isi_dict_lst, isi_dict_dct]
theorem e_is_integer1 (a b : Int) (h : b ≤ a) (S : List (List D)) : f_is_integer [.int a, .int b, .non] S = .ok (.bl true) S := by
  simp only [f_is_integer, g_is_integer, bodyFn, endR, padE, zseq, zret, zif, zpass, znext, zexpr, zasg, gset, gtup, gcons, gnil, zpar, setAll, sval, snew, snil, zsetB, zsetItem, celSet, zk, zvar, zop, toB, zand, zor, znot, zite, zchain, zcons, znil, ztup, zlstF, frz, celD, zcb, zcall, backR, zidx, zneg, zisi, zslice, onone, osome, zlenP, zbld, isBld, appendK, extendK, zlistF, listS, bind_ok, thenS_ok, ofO_some, List.getElem?_cons_zero, List.getElem?_cons_succ, List.set_cons_zero, List.set_cons_succ, List.length_cons, List.length_nil, List.map_cons, List.map_nil, List.replicate, List.cons_append, List.nil_append, List.append_nil, Nat.reduceAdd, Nat.reduceSub, Nat.zero_add, if_true, if_false, ite_true, ite_false, reduceIte, Bool.not_true, Bool.not_false, decide_true, decide_false, Bool.false_eq_true, isND, isNotND, addD, subD, cmpI, lenD, absD, intD, tupleD, Option.map_some, Option.bind_some, Option.bind, seqD, zseqI, idxD, isi_int_non, isi_int_bl, isi_int_int, isi_int_str, isi_int_tup, isi_int_lst, isi_int_dct, isi_bool_non, isi_bool_bl, isi_bool_int, isi_bool_str, isi_bool_tup, isi_bool_lst, isi_bool_dct, isi_tuple_non, isi_tuple_bl, isi_tuple_int, isi_tuple_str, isi_tuple_tup, isi_tuple_lst, isi_tuple_dct, isi_str_non, isi_str_bl, isi_str_int, isi_str_str, isi_str_tup, isi_str_lst, isi_str_dct, isi_list_non, isi_list_bl, isi_list_int, isi_list_str, isi_list_tup, isi_list_lst, isi_list_dct, isi_dict_non, isi_dict_bl, isi_dict_int, isi_dict_str, isi_dict_tup, isi_dict_lst, isi_dict_dct, decide_eq_true h]
theorem e_is_tuple2 (d e : D) (S : List (List D)) : f_is_tuple [.tup [d, e], .int 2, .int 2] S = .ok (.bl true) S := by
  have h1 : decide ((2 : Int) ≤ (((2 : Nat)) : Int)) = true := by decide
  have h2 : decide ((((2 : Nat)) : Int) ≤ (2 : Int)) = true := by decide
  simp only [f_is_tuple, g_is_tuple, bodyFn, endR, padE, zseq, zret, zif, zpass, znext, zexpr, zasg, gset, gtup, gcons, gnil, zpar, setAll, sval, snew, snil, zsetB, zsetItem, celSet, zk, zvar, zop, toB, zand, zor, znot, zite, zchain, zcons, znil, ztup, zlstF, frz, celD, zcb, zcall, backR, zidx, zneg, zisi, zslice, onone, osome, zlenP, zbld, isBld, appendK, extendK, zlistF, listS, bind_ok, thenS_ok, ofO_some, List.getElem?_cons_zero, List.getElem?_cons_succ, List.set_cons_zero, List.set_cons_succ, List.length_cons, List.length_nil, List.map_cons, List.map_nil, List.replicate, List.cons_append, List.nil_append, List.append_nil, Nat.reduceAdd, Nat.reduceSub, Nat.zero_add, if_true, if_false, ite_true, ite_false, reduceIte, Bool.not_true, Bool.not_false, decide_true, decide_false, Bool.false_eq_true, isND, isNotND, addD, subD, cmpI, lenD, absD, intD, tupleD, Option.map_some, Option.bind_some, Option.bind, seqD, zseqI, idxD, isi_int_non, isi_int_bl, isi_int_int, isi_int_str, isi_int_tup, isi_int_lst, isi_int_dct, isi_bool_non, isi_bool_bl, isi_bool_int, isi_bool_str, isi_bool_tup, isi_bool_lst, isi_bool_dct, isi_tuple_non, isi_tuple_bl, isi_tuple_int, isi_tuple_str, isi_tuple_tup, isi_tuple_lst, isi_tuple_dct, isi_str_non, isi_str_bl, isi_str_int, isi_str_str, isi_str_tup, isi_str_lst, isi_str_dct, isi_list_non, isi_list_bl, isi_list_int, isi_list_str, isi_list_tup, isi_list_lst, isi_list_dct, isi_dict_non, isi_dict_bl, isi_dict_int, isi_dict_str, isi_dict_tup, isi_dict_lst, isi_dict_dct, h1, h2]
theorem w_common (S : List (List D)) : ∀ (n a b : Nat), b < n → whileL (zop gtD (zvar 1) (zk (.int 0))) (zseq (zpar [0, 1] (sval (zvar 1) (sval (zop modD (zvar 0) (zvar 1)) snil))) znext) n ⟨[.val (.int a), .val (.int b)], S⟩ = .nx ⟨[.val (.int (Nat.gcd a b)), .val (.int 0)], S⟩
  | 0, a, b, h => by omega
  | n + 1, a, 0, h => by
    have h1 : decide ((0 : Int) < ((0 : Nat) : Int)) = false := by decide
    unfold whileL
    simp only [bodyFn, endR, padE, zseq, zret, zif, zpass, znext, zexpr, zasg, gset, gtup, gcons, gnil, zpar, setAll, sval, snew, snil, zsetB, zsetItem, celSet, zk, zvar, zop, toB, zand, zor, znot, zite, zchain, zcons, znil, ztup, zlstF, frz, celD, zcb, zcall, backR, zidx, zneg, zisi, zslice, onone, osome, zlenP, zbld, isBld, appendK, extendK, zlistF, listS, bind_ok, thenS_ok, ofO_some, List.getElem?_cons_zero, List.getElem?_cons_succ, List.set_cons_zero, List.set_cons_succ, List.length_cons, List.length_nil, List.map_cons, List.map_nil, List.replicate, List.cons_append, List.nil_append, List.append_nil, Nat.reduceAdd, Nat.reduceSub, Nat.zero_add, if_true, if_false, ite_true, ite_false, reduceIte, Bool.not_true, Bool.not_false, decide_true, decide_false, Bool.false_eq_true, isND, isNotND, addD, subD, cmpI, lenD, absD, intD, tupleD, Option.map_some, Option.bind_some, Option.bind, seqD, zseqI, idxD, isi_int_non, isi_int_bl, isi_int_int, isi_int_str, isi_int_tup, isi_int_lst, isi_int_dct, isi_bool_non, isi_bool_bl, isi_bool_int, isi_bool_str, isi_bool_tup, isi_bool_lst, isi_bool_dct, isi_tuple_non, isi_tuple_bl, isi_tuple_int, isi_tuple_str, isi_tuple_tup, isi_tuple_lst, isi_tuple_dct, isi_str_non, isi_str_bl, isi_str_int, isi_str_str, isi_str_tup, isi_str_lst, isi_str_dct, isi_list_non, isi_list_bl, isi_list_int, isi_list_str, isi_list_tup, isi_list_lst, isi_list_dct, isi_dict_non, isi_dict_bl, isi_dict_int, isi_dict_str, isi_dict_tup, isi_dict_lst, isi_dict_dct, h1, Nat.gcd_zero_right]
    rfl
  | n + 1, a, b + 1, h => by
    have hm : a % (b + 1) < b + 1 := Nat.mod_lt a (by omega)
    have ih := w_common S n (b + 1) (a % (b + 1)) (by omega)
    have h1 : decide ((0 : Int) < ((b + 1 : Nat) : Int)) = true := decide_eq_true (by omega)
    have h3 : modD (.int (a : Int)) (.int ((b + 1 : Nat) : Int)) = some (.int ((a % (b + 1) : Nat) : Int)) := by
      rw [modB (by omega)]
      rfl
    unfold whileL
    simp only [bodyFn, endR, padE, zseq, zret, zif, zpass, znext, zexpr, zasg, gset, gtup, gcons, gnil, zpar, setAll, sval, snew, snil, zsetB, zsetItem, celSet, zk, zvar, zop, toB, zand, zor, znot, zite, zchain, zcons, znil, ztup, zlstF, frz, celD, zcb, zcall, backR, zidx, zneg, zisi, zslice, onone, osome, zlenP, zbld, isBld, appendK, extendK, zlistF, listS, bind_ok, thenS_ok, ofO_some, List.getElem?_cons_zero, List.getElem?_cons_succ, List.set_cons_zero, List.set_cons_succ, List.length_cons, List.length_nil, List.map_cons, List.map_nil, List.replicate, List.cons_append, List.nil_append, List.append_nil, Nat.reduceAdd, Nat.reduceSub, Nat.zero_add, if_true, if_false, ite_true, ite_false, reduceIte, Bool.not_true, Bool.not_false, decide_true, decide_false, Bool.false_eq_true, isND, isNotND, addD, subD, cmpI, lenD, absD, intD, tupleD, Option.map_some, Option.bind_some, Option.bind, seqD, zseqI, idxD, isi_int_non, isi_int_bl, isi_int_int, isi_int_str, isi_int_tup, isi_int_lst, isi_int_dct, isi_bool_non, isi_bool_bl, isi_bool_int, isi_bool_str, isi_bool_tup, isi_bool_lst, isi_bool_dct, isi_tuple_non, isi_tuple_bl, isi_tuple_int, isi_tuple_str, isi_tuple_tup, isi_tuple_lst, isi_tuple_dct, isi_str_non, isi_str_bl, isi_str_int, isi_str_str, isi_str_tup, isi_str_lst, isi_str_dct, isi_list_non, isi_list_bl, isi_list_int, isi_list_str, isi_list_tup, isi_list_lst, isi_list_dct, isi_dict_non, isi_dict_bl, isi_dict_int, isi_dict_str, isi_dict_tup, isi_dict_lst, isi_dict_dct, h1, h3]
    rw [ih, Nat.gcd_comm a (b + 1), Nat.gcd_rec (b + 1) a, Nat.gcd_comm]
theorem e_common (a b : Int) (S : List (List D)) : f_common [.int a, .int b] S = .ok (.int (Int.gcd a b)) S := by
  refine fnR (e := [.val (.int (Nat.gcd a.natAbs b.natAbs)), .val (.int 0)]) ?_
  refine (sq1 (m1 := ⟨[.val (.int a.natAbs), .val (.int b.natAbs)], S⟩) ?_).trans ((sq1 (w_common S _ a.natAbs b.natAbs ?_)).trans (sq2 (rt1 ?_)))
  · simp only [padE, bodyFn, endR, padE, zseq, zret, zif, zpass, znext, zexpr, zasg, gset, gtup, gcons, gnil, zpar, setAll, sval, snew, snil, zsetB, zsetItem, celSet, zk, zvar, zop, toB, zand, zor, znot, zite, zchain, zcons, znil, ztup, zlstF, frz, celD, zcb, zcall, backR, zidx, zneg, zisi, zslice, onone, osome, zlenP, zbld, isBld, appendK, extendK, zlistF, listS, bind_ok, thenS_ok, ofO_some, List.getElem?_cons_zero, List.getElem?_cons_succ, List.set_cons_zero, List.set_cons_succ, List.length_cons, List.length_nil, List.map_cons, List.map_nil, List.replicate, List.cons_append, List.nil_append, List.append_nil, Nat.reduceAdd, Nat.reduceSub, Nat.zero_add, if_true, if_false, ite_true, ite_false, reduceIte, Bool.not_true, Bool.not_false, decide_true, decide_false, Bool.false_eq_true, isND, isNotND, addD, subD, cmpI, lenD, absD, intD, tupleD, Option.map_some, Option.bind_some, Option.bind, seqD, zseqI, idxD, isi_int_non, isi_int_bl, isi_int_int, isi_int_str, isi_int_tup, isi_int_lst, isi_int_dct, isi_bool_non, isi_bool_bl, isi_bool_int, isi_bool_str, isi_bool_tup, isi_bool_lst, isi_bool_dct, isi_tuple_non, isi_tuple_bl, isi_tuple_int, isi_tuple_str, isi_tuple_tup, isi_tuple_lst, isi_tuple_dct, isi_str_non, isi_str_bl, isi_str_int, isi_str_str, isi_str_tup, isi_str_lst, isi_str_dct, isi_list_non, isi_list_bl, isi_list_int, isi_list_str, isi_list_tup, isi_list_lst, isi_list_dct, isi_dict_non, isi_dict_bl, isi_dict_int, isi_dict_str, isi_dict_tup, isi_dict_lst, isi_dict_dct, absN]
  · simp [fuelM, slSz]
    omega
  · simp only [bodyFn, endR, padE, zseq, zret, zif, zpass, znext, zexpr, zasg, gset, gtup, gcons, gnil, zpar, setAll, sval, snew, snil, zsetB, zsetItem, celSet, zk, zvar, zop, toB, zand, zor, znot, zite, zchain, zcons, znil, ztup, zlstF, frz, celD, zcb, zcall, backR, zidx, zneg, zisi, zslice, onone, osome, zlenP, zbld, isBld, appendK, extendK, zlistF, listS, bind_ok, thenS_ok, ofO_some, List.getElem?_cons_zero, List.getElem?_cons_succ, List.set_cons_zero, List.set_cons_succ, List.length_cons, List.length_nil, List.map_cons, List.map_nil, List.replicate, List.cons_append, List.nil_append, List.append_nil, Nat.reduceAdd, Nat.reduceSub, Nat.zero_add, if_true, if_false, ite_true, ite_false, reduceIte, Bool.not_true, Bool.not_false, decide_true, decide_false, Bool.false_eq_true, isND, isNotND, addD, subD, cmpI, lenD, absD, intD, tupleD, Option.map_some, Option.bind_some, Option.bind, seqD, zseqI, idxD, isi_int_non, isi_int_bl, isi_int_int, isi_int_str, isi_int_tup, isi_int_lst, isi_int_dct, isi_bool_non, isi_bool_bl, isi_bool_int, isi_bool_str, isi_bool_tup, isi_bool_lst, isi_bool_dct, isi_tuple_non, isi_tuple_bl, isi_tuple_int, isi_tuple_str, isi_tuple_tup, isi_tuple_lst, isi_tuple_dct, isi_str_non, isi_str_bl, isi_str_int, isi_str_str, isi_str_tup, isi_str_lst, isi_str_dct, isi_list_non, isi_list_bl, isi_list_int, isi_list_str, isi_list_tup, isi_list_lst, isi_list_dct, isi_dict_non, isi_dict_bl, isi_dict_int, isi_dict_str, isi_dict_tup, isi_dict_lst, isi_dict_dct]
    rfl
theorem small2 : small 2 = true := by decide
theorem e_cut {t l : Int} {k : Nat} (h : l ≠ 0) (hl : Bt k l) (hk : k < 9000) (S : List (List D)) : f_cut [.int t, .int l] S = .ok (fr (cutF t l)) S := by
  have hs := sgn_ne (t := t) h
  have hb := sgn_bt (t := t) h hl
  refine fnR (e := [.val (.int t), .val (.int l), .val (.int (sgn t l))]) ?_
  refine (sq1 (as1 (d := .int (sgn t l)) (m1 := ⟨[.val (.int t), .val (.int l), .un], S⟩) ?_ rfl)).trans (sq2 (rt1 ?_))
  · unfold sgn
    by_cases h0 : 0 < l
    · simp only [padE, bodyFn, endR, padE, zseq, zret, zif, zpass, znext, zexpr, zasg, gset, gtup, gcons, gnil, zpar, setAll, sval, snew, snil, zsetB, zsetItem, celSet, zk, zvar, zop, toB, zand, zor, znot, zite, zchain, zcons, znil, ztup, zlstF, frz, celD, zcb, zcall, backR, zidx, zneg, zisi, zslice, onone, osome, zlenP, zbld, isBld, appendK, extendK, zlistF, listS, bind_ok, thenS_ok, ofO_some, List.getElem?_cons_zero, List.getElem?_cons_succ, List.set_cons_zero, List.set_cons_succ, List.length_cons, List.length_nil, List.map_cons, List.map_nil, List.replicate, List.cons_append, List.nil_append, List.append_nil, Nat.reduceAdd, Nat.reduceSub, Nat.zero_add, if_true, if_false, ite_true, ite_false, reduceIte, Bool.not_true, Bool.not_false, decide_true, decide_false, Bool.false_eq_true, isND, isNotND, addD, subD, cmpI, lenD, absD, intD, tupleD, Option.map_some, Option.bind_some, Option.bind, seqD, zseqI, idxD, isi_int_non, isi_int_bl, isi_int_int, isi_int_str, isi_int_tup, isi_int_lst, isi_int_dct, isi_bool_non, isi_bool_bl, isi_bool_int, isi_bool_str, isi_bool_tup, isi_bool_lst, isi_bool_dct, isi_tuple_non, isi_tuple_bl, isi_tuple_int, isi_tuple_str, isi_tuple_tup, isi_tuple_lst, isi_tuple_dct, isi_str_non, isi_str_bl, isi_str_int, isi_str_str, isi_str_tup, isi_str_lst, isi_str_dct, isi_list_non, isi_list_bl, isi_list_int, isi_list_str, isi_list_tup, isi_list_lst, isi_list_dct, isi_dict_non, isi_dict_bl, isi_dict_int, isi_dict_str, isi_dict_tup, isi_dict_lst, isi_dict_dct, decide_eq_true h0, e_common, if_pos h0]
    · simp only [padE, bodyFn, endR, padE, zseq, zret, zif, zpass, znext, zexpr, zasg, gset, gtup, gcons, gnil, zpar, setAll, sval, snew, snil, zsetB, zsetItem, celSet, zk, zvar, zop, toB, zand, zor, znot, zite, zchain, zcons, znil, ztup, zlstF, frz, celD, zcb, zcall, backR, zidx, zneg, zisi, zslice, onone, osome, zlenP, zbld, isBld, appendK, extendK, zlistF, listS, bind_ok, thenS_ok, ofO_some, List.getElem?_cons_zero, List.getElem?_cons_succ, List.set_cons_zero, List.set_cons_succ, List.length_cons, List.length_nil, List.map_cons, List.map_nil, List.replicate, List.cons_append, List.nil_append, List.append_nil, Nat.reduceAdd, Nat.reduceSub, Nat.zero_add, if_true, if_false, ite_true, ite_false, reduceIte, Bool.not_true, Bool.not_false, decide_true, decide_false, Bool.false_eq_true, isND, isNotND, addD, subD, cmpI, lenD, absD, intD, tupleD, Option.map_some, Option.bind_some, Option.bind, seqD, zseqI, idxD, isi_int_non, isi_int_bl, isi_int_int, isi_int_str, isi_int_tup, isi_int_lst, isi_int_dct, isi_bool_non, isi_bool_bl, isi_bool_int, isi_bool_str, isi_bool_tup, isi_bool_lst, isi_bool_dct, isi_tuple_non, isi_tuple_bl, isi_tuple_int, isi_tuple_str, isi_tuple_tup, isi_tuple_lst, isi_tuple_dct, isi_str_non, isi_str_bl, isi_str_int, isi_str_str, isi_str_tup, isi_str_lst, isi_str_dct, isi_list_non, isi_list_bl, isi_list_int, isi_list_str, isi_list_tup, isi_list_lst, isi_list_dct, isi_dict_non, isi_dict_bl, isi_dict_int, isi_dict_str, isi_dict_tup, isi_dict_lst, isi_dict_dct, decide_eq_false h0, e_common, if_neg h0]
  · simp only [bodyFn, endR, padE, zseq, zret, zif, zpass, znext, zexpr, zasg, gset, gtup, gcons, gnil, zpar, setAll, sval, snew, snil, zsetB, zsetItem, celSet, zk, zvar, zop, toB, zand, zor, znot, zite, zchain, zcons, znil, ztup, zlstF, frz, celD, zcb, zcall, backR, zidx, zneg, zisi, zslice, onone, osome, zlenP, zbld, isBld, appendK, extendK, zlistF, listS, bind_ok, thenS_ok, ofO_some, List.getElem?_cons_zero, List.getElem?_cons_succ, List.set_cons_zero, List.set_cons_succ, List.length_cons, List.length_nil, List.map_cons, List.map_nil, List.replicate, List.cons_append, List.nil_append, List.append_nil, Nat.reduceAdd, Nat.reduceSub, Nat.zero_add, if_true, if_false, ite_true, ite_false, reduceIte, Bool.not_true, Bool.not_false, decide_true, decide_false, Bool.false_eq_true, isND, isNotND, addD, subD, cmpI, lenD, absD, intD, tupleD, Option.map_some, Option.bind_some, Option.bind, seqD, zseqI, idxD, isi_int_non, isi_int_bl, isi_int_int, isi_int_str, isi_int_tup, isi_int_lst, isi_int_dct, isi_bool_non, isi_bool_bl, isi_bool_int, isi_bool_str, isi_bool_tup, isi_bool_lst, isi_bool_dct, isi_tuple_non, isi_tuple_bl, isi_tuple_int, isi_tuple_str, isi_tuple_tup, isi_tuple_lst, isi_tuple_dct, isi_str_non, isi_str_bl, isi_str_int, isi_str_str, isi_str_tup, isi_str_lst, isi_str_dct, isi_list_non, isi_list_bl, isi_list_int, isi_list_str, isi_list_tup, isi_list_lst, isi_list_dct, isi_dict_non, isi_dict_bl, isi_dict_int, isi_dict_str, isi_dict_tup, isi_dict_lst, isi_dict_dct, fdivB hs hb hk, small2]
    rfl
theorem okI {d e : D} (h1 : okD d = true) (h2 : okD e = true) (h3 : ∀ x, d ≠ .str x) : eqD d e = some (.bl (eqb d e)) ∧ neD d e = some (.bl (!eqb d e)) := by
  have hc : (okD d && okD e) = true := by rw [h1, h2]; rfl
  constructor
  · unfold eqD
    split
    · rename_i x y
      exact absurd rfl (h3 x)
    · rw [if_pos hc]
  · unfold neD
    split
    · rename_i x y
      exact absurd rfl (h3 x)
    · rw [if_pos hc]
theorem eqI (a b : Int) : eqD (.int a) (.int b) = some (.bl (decide (a = b))) ∧ neD (.int a) (.int b) = some (.bl (!decide (a = b))) := by
  have := okI (d := .int a) (e := .int b) rfl rfl (fun x => nofun)
  have e : eqb (.int a) (.int b) = decide (a = b) := by
    simp only [eqb]
    by_cases h : a = b <;> simp [h]
  rw [e] at this
  exact this
theorem e_is_fraction {p : Int × Int} (h : Red p) (S : List (List D)) : f_is_fraction [fr p] S = .ok (.bl true) S := by
  have h1 : decide ((Int.gcd p.1 p.2 : Int) = 1) = true := by rw [h.2]; decide
  simp only [f_is_fraction, g_is_fraction, bodyFn, endR, padE, zseq, zret, zif, zpass, znext, zexpr, zasg, gset, gtup, gcons, gnil, zpar, setAll, sval, snew, snil, zsetB, zsetItem, celSet, zk, zvar, zop, toB, zand, zor, znot, zite, zchain, zcons, znil, ztup, zlstF, frz, celD, zcb, zcall, backR, zidx, zneg, zisi, zslice, onone, osome, zlenP, zbld, isBld, appendK, extendK, zlistF, listS, bind_ok, thenS_ok, ofO_some, List.getElem?_cons_zero, List.getElem?_cons_succ, List.set_cons_zero, List.set_cons_succ, List.length_cons, List.length_nil, List.map_cons, List.map_nil, List.replicate, List.cons_append, List.nil_append, List.append_nil, Nat.reduceAdd, Nat.reduceSub, Nat.zero_add, if_true, if_false, ite_true, ite_false, reduceIte, Bool.not_true, Bool.not_false, decide_true, decide_false, Bool.false_eq_true, isND, isNotND, addD, subD, cmpI, lenD, absD, intD, tupleD, Option.map_some, Option.bind_some, Option.bind, seqD, zseqI, idxD, isi_int_non, isi_int_bl, isi_int_int, isi_int_str, isi_int_tup, isi_int_lst, isi_int_dct, isi_bool_non, isi_bool_bl, isi_bool_int, isi_bool_str, isi_bool_tup, isi_bool_lst, isi_bool_dct, isi_tuple_non, isi_tuple_bl, isi_tuple_int, isi_tuple_str, isi_tuple_tup, isi_tuple_lst, isi_tuple_dct, isi_str_non, isi_str_bl, isi_str_int, isi_str_str, isi_str_tup, isi_str_lst, isi_str_dct, isi_list_non, isi_list_bl, isi_list_int, isi_list_str, isi_list_tup, isi_list_lst, isi_list_dct, isi_dict_non, isi_dict_bl, isi_dict_int, isi_dict_str, isi_dict_tup, isi_dict_lst, isi_dict_dct, at0, at1, e_is_tuple2, e_is_integer0, e_is_integer1 _ _ (show (1 : Int) ≤ p.2 from h.1), e_common, (eqI _ _).1, h1]
theorem zcompF1 {src : DenL} {t : Tg} {el : Den} {own : List Nat} {m m1 m2 : M} {ds xs : List D} (h : src m = .ok ds m1) (hs : ds.length < 1000000) (hb : noBld m1.e own = true) (hc : compL t yes el own ds [] (hide own m1) = .ok xs m2) : zcompF src t yes el own m = .ok xs ⟨backE m1.e m2.e own, m2.S⟩ := by
  unfold zcompF
  rw [h, bind_ok, if_pos (by rw [small_of hs, hb]; rfl), hc]
theorem frz1 {f : DenL} {m m1 : M} {ds : List D} (h : f m = .ok ds m1) : frz f m = .ok (.lst ds) m1 := by
  unfold frz
  rw [h, bind_ok]
theorem cb1 {g : List D → Option D} {fs : DenL} {m m1 : M} {ds : List D} {d : D} (h : fs m = .ok ds m1) (hg : g ds = some d) : zcb g fs m = .ok d m1 := by
  unfold zcb
  rw [h, bind_ok, hg, ofO_some]
theorem cons1 {f : Den} {fs : DenL} {m m1 m2 : M} {d : D} {ds : List D} (h : f m = .ok d m1) (h2 : fs m1 = .ok ds m2) : zcons f fs m = .ok (d :: ds) m2 := by
  unfold zcons
  rw [h, bind_ok, h2, bind_ok]
theorem all_true : ∀ n : Nat, boolsD (List.replicate n (D.bl true)) = some (List.replicate n true)
  | 0 => rfl
  | n + 1 => by
    simp only [List.replicate_succ, boolsD, all_true n, Option.map_some]
theorem allD_true (n : Nat) : allD [.lst (List.replicate n (.bl true))] = some (.bl true) := by
  simp [allD, all_true]
theorem w_are : ∀ (fs : List (Int × Int)) (acc : List D) (e0 e1 : Sl) (S : List (List D)), (∀ f ∈ fs, Red f) → compL (gset 2) yes (zcall f_is_fraction [] (zcons (zvar 2) znil)) [2] (fs.map fr) acc ⟨[e0, e1, .un], S⟩ = .ok (acc ++ List.replicate fs.length (.bl true)) ⟨[e0, e1, .un], S⟩
  | [], acc, e0, e1, S, _ => by simp [compL]
  | f :: fs, acc, e0, e1, S, h => by
    have ih := w_are fs (acc ++ [.bl true]) e0 e1 S fun x hx => h x (List.mem_cons_of_mem _ hx)
    have hf := e_is_fraction (h f (List.mem_cons_self ..)) S
    simp only [List.map_cons, compL, bodyFn, endR, padE, zseq, zret, zif, zpass, znext, zexpr, zasg, gset, gtup, gcons, gnil, zpar, setAll, sval, snew, snil, zsetB, zsetItem, celSet, zk, zvar, zop, toB, zand, zor, znot, zite, zchain, zcons, znil, ztup, zlstF, frz, celD, zcb, zcall, backR, zidx, zneg, zisi, zslice, onone, osome, zlenP, zbld, isBld, appendK, extendK, zlistF, listS, bind_ok, thenS_ok, ofO_some, List.getElem?_cons_zero, List.getElem?_cons_succ, List.set_cons_zero, List.set_cons_succ, List.length_cons, List.length_nil, List.map_cons, List.map_nil, List.replicate, List.cons_append, List.nil_append, List.append_nil, Nat.reduceAdd, Nat.reduceSub, Nat.zero_add, if_true, if_false, ite_true, ite_false, reduceIte, Bool.not_true, Bool.not_false, decide_true, decide_false, Bool.false_eq_true, isND, isNotND, addD, subD, cmpI, lenD, absD, intD, tupleD, Option.map_some, Option.bind_some, Option.bind, seqD, zseqI, idxD, isi_int_non, isi_int_bl, isi_int_int, isi_int_str, isi_int_tup, isi_int_lst, isi_int_dct, isi_bool_non, isi_bool_bl, isi_bool_int, isi_bool_str, isi_bool_tup, isi_bool_lst, isi_bool_dct, isi_tuple_non, isi_tuple_bl, isi_tuple_int, isi_tuple_str, isi_tuple_tup, isi_tuple_lst, isi_tuple_dct, isi_str_non, isi_str_bl, isi_str_int, isi_str_str, isi_str_tup, isi_str_lst, isi_str_dct, isi_list_non, isi_list_bl, isi_list_int, isi_list_str, isi_list_tup, isi_list_lst, isi_list_dct, isi_dict_non, isi_dict_bl, isi_dict_int, isi_dict_str, isi_dict_tup, isi_dict_lst, isi_dict_dct, yes, hf, hide, hideE]
    rw [ih]
    simp [List.replicate_succ]
theorem e_are0 {fs : List (Int × Int)} (h : ∀ f ∈ fs, Red f) (hl : fs.length < 1000) (S : List (List D)) : f_are_fractions [.tup (fs.map fr), .non] S = .ok (.bl true) S := by
  refine fnR (e := [.val (.tup (fs.map fr)), .val .non, .un]) ?_
  refine (sq1 (m1 := ⟨[.val (.tup (fs.map fr)), .val .non, .un], S⟩) ?_).trans (sq2 (rt1 (cb1 (cons1 (frz1 (zcompF1 (ds := fs.map fr) (m1 := ⟨[.val (.tup (fs.map fr)), .val .non, .un], S⟩) ?_ (by rw [List.length_map]; omega) rfl (w_are fs [] _ _ S h))) rfl) (allD_true _))))
  · simp only [padE, bodyFn, endR, padE, zseq, zret, zif, zpass, znext, zexpr, zasg, gset, gtup, gcons, gnil, zpar, setAll, sval, snew, snil, zsetB, zsetItem, celSet, zk, zvar, zop, toB, zand, zor, znot, zite, zchain, zcons, znil, ztup, zlstF, frz, celD, zcb, zcall, backR, zidx, zneg, zisi, zslice, onone, osome, zlenP, zbld, isBld, appendK, extendK, zlistF, listS, bind_ok, thenS_ok, ofO_some, List.getElem?_cons_zero, List.getElem?_cons_succ, List.set_cons_zero, List.set_cons_succ, List.length_cons, List.length_nil, List.map_cons, List.map_nil, List.replicate, List.cons_append, List.nil_append, List.append_nil, Nat.reduceAdd, Nat.reduceSub, Nat.zero_add, if_true, if_false, ite_true, ite_false, reduceIte, Bool.not_true, Bool.not_false, decide_true, decide_false, Bool.false_eq_true, isND, isNotND, addD, subD, cmpI, lenD, absD, intD, tupleD, Option.map_some, Option.bind_some, Option.bind, seqD, zseqI, idxD, isi_int_non, isi_int_bl, isi_int_int, isi_int_str, isi_int_tup, isi_int_lst, isi_int_dct, isi_bool_non, isi_bool_bl, isi_bool_int, isi_bool_str, isi_bool_tup, isi_bool_lst, isi_bool_dct, isi_tuple_non, isi_tuple_bl, isi_tuple_int, isi_tuple_str, isi_tuple_tup, isi_tuple_lst, isi_tuple_dct, isi_str_non, isi_str_bl, isi_str_int, isi_str_str, isi_str_tup, isi_str_lst, isi_str_dct, isi_list_non, isi_list_bl, isi_list_int, isi_list_str, isi_list_tup, isi_list_lst, isi_list_dct, isi_dict_non, isi_dict_bl, isi_dict_int, isi_dict_str, isi_dict_tup, isi_dict_lst, isi_dict_dct]
  · simp only [bodyFn, endR, padE, zseq, zret, zif, zpass, znext, zexpr, zasg, gset, gtup, gcons, gnil, zpar, setAll, sval, snew, snil, zsetB, zsetItem, celSet, zk, zvar, zop, toB, zand, zor, znot, zite, zchain, zcons, znil, ztup, zlstF, frz, celD, zcb, zcall, backR, zidx, zneg, zisi, zslice, onone, osome, zlenP, zbld, isBld, appendK, extendK, zlistF, listS, bind_ok, thenS_ok, ofO_some, List.getElem?_cons_zero, List.getElem?_cons_succ, List.set_cons_zero, List.set_cons_succ, List.length_cons, List.length_nil, List.map_cons, List.map_nil, List.replicate, List.cons_append, List.nil_append, List.append_nil, Nat.reduceAdd, Nat.reduceSub, Nat.zero_add, if_true, if_false, ite_true, ite_false, reduceIte, Bool.not_true, Bool.not_false, decide_true, decide_false, Bool.false_eq_true, isND, isNotND, addD, subD, cmpI, lenD, absD, intD, tupleD, Option.map_some, Option.bind_some, Option.bind, seqD, zseqI, idxD, isi_int_non, isi_int_bl, isi_int_int, isi_int_str, isi_int_tup, isi_int_lst, isi_int_dct, isi_bool_non, isi_bool_bl, isi_bool_int, isi_bool_str, isi_bool_tup, isi_bool_lst, isi_bool_dct, isi_tuple_non, isi_tuple_bl, isi_tuple_int, isi_tuple_str, isi_tuple_tup, isi_tuple_lst, isi_tuple_dct, isi_str_non, isi_str_bl, isi_str_int, isi_str_str, isi_str_tup, isi_str_lst, isi_str_dct, isi_list_non, isi_list_bl, isi_list_int, isi_list_str, isi_list_tup, isi_list_lst, isi_list_dct, isi_dict_non, isi_dict_bl, isi_dict_int, isi_dict_str, isi_dict_tup, isi_dict_lst, isi_dict_dct]
theorem e_are1 {fs : List (Int × Int)} (h : ∀ f ∈ fs, Red f) (hl : fs.length < 1000) {n : Nat} (hn : fs.length = n) (S : List (List D)) : f_are_fractions [.tup (fs.map fr), .int (n : Nat)] S = .ok (.bl true) S := by
  subst hn
  refine fnR (e := [.val (.tup (fs.map fr)), .val (.int fs.length), .un]) ?_
  refine (sq1 (m1 := ⟨[.val (.tup (fs.map fr)), .val (.int fs.length), .un], S⟩) ?_).trans (sq2 (rt1 (cb1 (cons1 (frz1 (zcompF1 (ds := fs.map fr) (m1 := ⟨[.val (.tup (fs.map fr)), .val (.int fs.length), .un], S⟩) ?_ (by rw [List.length_map]; omega) rfl (w_are fs [] _ _ S h))) rfl) (allD_true _))))
  · have e := (eqI (fs.length : Int) (fs.length : Int)).2
    rw [decide_eq_true rfl] at e
    simp only [padE, bodyFn, endR, padE, zseq, zret, zif, zpass, znext, zexpr, zasg, gset, gtup, gcons, gnil, zpar, setAll, sval, snew, snil, zsetB, zsetItem, celSet, zk, zvar, zop, toB, zand, zor, znot, zite, zchain, zcons, znil, ztup, zlstF, frz, celD, zcb, zcall, backR, zidx, zneg, zisi, zslice, onone, osome, zlenP, zbld, isBld, appendK, extendK, zlistF, listS, bind_ok, thenS_ok, ofO_some, List.getElem?_cons_zero, List.getElem?_cons_succ, List.set_cons_zero, List.set_cons_succ, List.length_cons, List.length_nil, List.map_cons, List.map_nil, List.replicate, List.cons_append, List.nil_append, List.append_nil, Nat.reduceAdd, Nat.reduceSub, Nat.zero_add, if_true, if_false, ite_true, ite_false, reduceIte, Bool.not_true, Bool.not_false, decide_true, decide_false, Bool.false_eq_true, isND, isNotND, addD, subD, cmpI, lenD, absD, intD, tupleD, Option.map_some, Option.bind_some, Option.bind, seqD, zseqI, idxD, isi_int_non, isi_int_bl, isi_int_int, isi_int_str, isi_int_tup, isi_int_lst, isi_int_dct, isi_bool_non, isi_bool_bl, isi_bool_int, isi_bool_str, isi_bool_tup, isi_bool_lst, isi_bool_dct, isi_tuple_non, isi_tuple_bl, isi_tuple_int, isi_tuple_str, isi_tuple_tup, isi_tuple_lst, isi_tuple_dct, isi_str_non, isi_str_bl, isi_str_int, isi_str_str, isi_str_tup, isi_str_lst, isi_str_dct, isi_list_non, isi_list_bl, isi_list_int, isi_list_str, isi_list_tup, isi_list_lst, isi_list_dct, isi_dict_non, isi_dict_bl, isi_dict_int, isi_dict_str, isi_dict_tup, isi_dict_lst, isi_dict_dct, List.length_map, e]
  · simp only [bodyFn, endR, padE, zseq, zret, zif, zpass, znext, zexpr, zasg, gset, gtup, gcons, gnil, zpar, setAll, sval, snew, snil, zsetB, zsetItem, celSet, zk, zvar, zop, toB, zand, zor, znot, zite, zchain, zcons, znil, ztup, zlstF, frz, celD, zcb, zcall, backR, zidx, zneg, zisi, zslice, onone, osome, zlenP, zbld, isBld, appendK, extendK, zlistF, listS, bind_ok, thenS_ok, ofO_some, List.getElem?_cons_zero, List.getElem?_cons_succ, List.set_cons_zero, List.set_cons_succ, List.length_cons, List.length_nil, List.map_cons, List.map_nil, List.replicate, List.cons_append, List.nil_append, List.append_nil, Nat.reduceAdd, Nat.reduceSub, Nat.zero_add, if_true, if_false, ite_true, ite_false, reduceIte, Bool.not_true, Bool.not_false, decide_true, decide_false, Bool.false_eq_true, isND, isNotND, addD, subD, cmpI, lenD, absD, intD, tupleD, Option.map_some, Option.bind_some, Option.bind, seqD, zseqI, idxD, isi_int_non, isi_int_bl, isi_int_int, isi_int_str, isi_int_tup, isi_int_lst, isi_int_dct, isi_bool_non, isi_bool_bl, isi_bool_int, isi_bool_str, isi_bool_tup, isi_bool_lst, isi_bool_dct, isi_tuple_non, isi_tuple_bl, isi_tuple_int, isi_tuple_str, isi_tuple_tup, isi_tuple_lst, isi_tuple_dct, isi_str_non, isi_str_bl, isi_str_int, isi_str_str, isi_str_tup, isi_str_lst, isi_str_dct, isi_list_non, isi_list_bl, isi_list_int, isi_list_str, isi_list_tup, isi_list_lst, isi_list_dct, isi_dict_non, isi_dict_bl, isi_dict_int, isi_dict_str, isi_dict_tup, isi_dict_lst, isi_dict_dct]
theorem e_times {p q : Int × Int} {j k : Nat} (hp : Fk j p) (hq : Fk k q) (hk : j + k < 9000) (S : List (List D)) : f_times [fr p, fr q] S = .ok (fr (tmF p q)) S := by
  have n3 : p.2 * q.2 ≠ 0 := Int.mul_ne_zero hp.1.ne hq.1.ne
  simp only [f_times, g_times, bodyFn, endR, padE, zseq, zret, zif, zpass, znext, zexpr, zasg, gset, gtup, gcons, gnil, zpar, setAll, sval, snew, snil, zsetB, zsetItem, celSet, zk, zvar, zop, toB, zand, zor, znot, zite, zchain, zcons, znil, ztup, zlstF, frz, celD, zcb, zcall, backR, zidx, zneg, zisi, zslice, onone, osome, zlenP, zbld, isBld, appendK, extendK, zlistF, listS, bind_ok, thenS_ok, ofO_some, List.getElem?_cons_zero, List.getElem?_cons_succ, List.set_cons_zero, List.set_cons_succ, List.length_cons, List.length_nil, List.map_cons, List.map_nil, List.replicate, List.cons_append, List.nil_append, List.append_nil, Nat.reduceAdd, Nat.reduceSub, Nat.zero_add, if_true, if_false, ite_true, ite_false, reduceIte, Bool.not_true, Bool.not_false, decide_true, decide_false, Bool.false_eq_true, isND, isNotND, addD, subD, cmpI, lenD, absD, intD, tupleD, Option.map_some, Option.bind_some, Option.bind, seqD, zseqI, idxD, isi_int_non, isi_int_bl, isi_int_int, isi_int_str, isi_int_tup, isi_int_lst, isi_int_dct, isi_bool_non, isi_bool_bl, isi_bool_int, isi_bool_str, isi_bool_tup, isi_bool_lst, isi_bool_dct, isi_tuple_non, isi_tuple_bl, isi_tuple_int, isi_tuple_str, isi_tuple_tup, isi_tuple_lst, isi_tuple_dct, isi_str_non, isi_str_bl, isi_str_int, isi_str_str, isi_str_tup, isi_str_lst, isi_str_dct, isi_list_non, isi_list_bl, isi_list_int, isi_list_str, isi_list_tup, isi_list_lst, isi_list_dct, isi_dict_non, isi_dict_bl, isi_dict_int, isi_dict_str, isi_dict_tup, isi_dict_lst, isi_dict_dct, at0, at1, mulB hp.2.1 hq.2.1 (by omega), mulB hp.2.2 hq.2.2 (by omega), e_cut n3 (hp.2.2.mul hq.2.2) hk]
  rfl
theorem e_plus {p q : Int × Int} {j k : Nat} (hp : Fk j p) (hq : Fk k q) (hk : j + k < 9000) (S : List (List D)) : f_plus [fr p, fr q] S = .ok (fr (plF p q)) S := by
  have n3 : p.2 * q.2 ≠ 0 := Int.mul_ne_zero hp.1.ne hq.1.ne
  simp only [f_plus, g_plus, bodyFn, endR, padE, zseq, zret, zif, zpass, znext, zexpr, zasg, gset, gtup, gcons, gnil, zpar, setAll, sval, snew, snil, zsetB, zsetItem, celSet, zk, zvar, zop, toB, zand, zor, znot, zite, zchain, zcons, znil, ztup, zlstF, frz, celD, zcb, zcall, backR, zidx, zneg, zisi, zslice, onone, osome, zlenP, zbld, isBld, appendK, extendK, zlistF, listS, bind_ok, thenS_ok, ofO_some, List.getElem?_cons_zero, List.getElem?_cons_succ, List.set_cons_zero, List.set_cons_succ, List.length_cons, List.length_nil, List.map_cons, List.map_nil, List.replicate, List.cons_append, List.nil_append, List.append_nil, Nat.reduceAdd, Nat.reduceSub, Nat.zero_add, if_true, if_false, ite_true, ite_false, reduceIte, Bool.not_true, Bool.not_false, decide_true, decide_false, Bool.false_eq_true, isND, isNotND, addD, subD, cmpI, lenD, absD, intD, tupleD, Option.map_some, Option.bind_some, Option.bind, seqD, zseqI, idxD, isi_int_non, isi_int_bl, isi_int_int, isi_int_str, isi_int_tup, isi_int_lst, isi_int_dct, isi_bool_non, isi_bool_bl, isi_bool_int, isi_bool_str, isi_bool_tup, isi_bool_lst, isi_bool_dct, isi_tuple_non, isi_tuple_bl, isi_tuple_int, isi_tuple_str, isi_tuple_tup, isi_tuple_lst, isi_tuple_dct, isi_str_non, isi_str_bl, isi_str_int, isi_str_str, isi_str_tup, isi_str_lst, isi_str_dct, isi_list_non, isi_list_bl, isi_list_int, isi_list_str, isi_list_tup, isi_list_lst, isi_list_dct, isi_dict_non, isi_dict_bl, isi_dict_int, isi_dict_str, isi_dict_tup, isi_dict_lst, isi_dict_dct, at0, at1, mulB hp.2.1 hq.2.2 (by omega), mulB hq.2.1 hp.2.2 (by omega), mulB hp.2.2 hq.2.2 (by omega), e_cut n3 (hp.2.2.mul hq.2.2) hk]
  rfl
end Z

set_option Elab.async false
set_option linter.all false
set_option maxRecDepth 100000
set_option maxHeartbeats 2000000
namespace Z
open PySem PySem.Spec PyProof.Rows L2 RZ
abbrev fw (f w : Int × Int) : D := .tup [fr f, fr w]
theorem zip_fr : ∀ (fs ws : List (Int × Int)), List.zipWith (fun x y => D.tup [x, y]) (fs.map fr) (ws.map fr) = List.zipWith fw fs ws
  | [], _ => by simp
  | _ :: _, [] => by simp
  | f :: fs, w :: ws => by simp [zip_fr fs ws]
theorem zzip1 {fs ws : List (Int × Int)} {k : DenL} {m m1 : M} (h : k m = .ok [.tup (fs.map fr), .tup (ws.map fr)] m1) : zzip k m = .ok (List.zipWith fw fs ws) m1 := by
  unfold zzip
  rw [h, bind_ok]
  show ofO (some (List.zipWith (fun x y => D.tup [x, y]) (fs.map fr) (ws.map fr))) m1 = _
  rw [zip_fr, ofO_some]
theorem w_weighed {c : Nat} {d0 d1 : D} {S : List (List D)} : ∀ (fs ws : List (Int × Int)) (p : Int × Int) (k : Nat) (e3 e4 : Sl), Fk k p → (∀ f ∈ fs, Fk c f) → (∀ w ∈ ws, Fk c w) → k + fs.length * (2 * c + 1) < 9000 →
    ∃ e3' e4', forL (gtup 2 (gcons (gset 3) (gcons (gset 4) gnil))) (zseq (zasg (zcall f_plus [] (zcons (zvar 2) (zcons (zcall f_times [] (zcons (zvar 3) (zcons (zvar 4) znil))) znil))) (gset 2)) znext) (List.zipWith fw fs ws) ⟨[.val d0, .val d1, .val (fr p), e3, e4], S⟩
      = .nx ⟨[.val d0, .val d1, .val (fr (wF p fs ws)), e3', e4'], S⟩
  | [], ws, p, k, e3, e4, _, _, _, _ => ⟨e3, e4, by simp [forL, wF]⟩
  | f :: fs, [], p, k, e3, e4, _, _, _, _ => ⟨e3, e4, by simp [forL, wF]⟩
  | f :: fs, w :: ws, p, k, e3, e4, hp, hf, hw, hk => by
    have hk2 : (fs.length + 1) * (2 * c + 1) = fs.length * (2 * c + 1) + (2 * c + 1) := Nat.succ_mul _ _
    rw [List.length_cons, hk2] at hk
    have f1 := hf f (List.mem_cons_self ..)
    have w1 := hw w (List.mem_cons_self ..)
    have t1 := (tm_ok f1 w1).1
    have q1 := (pl_ok hp t1).1
    obtain ⟨e3', e4', h⟩ := w_weighed (d0 := d0) (d1 := d1) (S := S) fs ws (plF p (tmF f w)) (k + (c + c) + 1) (.val (fr f)) (.val (fr w)) q1 (fun x hx => hf x (List.mem_cons_of_mem _ hx)) (fun x hx => hw x (List.mem_cons_of_mem _ hx)) (by omega)
    refine ⟨e3', e4', ?_⟩
    have z1 := e_times f1 w1 (show c + c < 9000 by omega) S
    have z2 := e_plus hp t1 (show k + (c + c) < 9000 by omega) S
    simp only [List.zipWith_cons_cons, forL, bodyFn, endR, padE, zseq, zret, zif, zpass, znext, zexpr, zasg, gset, gtup, gcons, gnil, zpar, setAll, sval, snew, snil, zsetB, zsetItem, celSet, zk, zvar, zop, toB, zand, zor, znot, zite, zchain, zcons, znil, ztup, zlstF, frz, celD, zcb, zcall, backR, zidx, zneg, zisi, zslice, onone, osome, zlenP, zbld, isBld, appendK, extendK, zlistF, listS, bind_ok, thenS_ok, ofO_some, List.getElem?_cons_zero, List.getElem?_cons_succ, List.set_cons_zero, List.set_cons_succ, List.length_cons, List.length_nil, List.map_cons, List.map_nil, List.replicate, List.cons_append, List.nil_append, List.append_nil, Nat.reduceAdd, Nat.reduceSub, Nat.zero_add, if_true, if_false, ite_true, ite_false, reduceIte, Bool.not_true, Bool.not_false, decide_true, decide_false, Bool.false_eq_true, isND, isNotND, addD, subD, cmpI, lenD, absD, intD, tupleD, Option.map_some, Option.bind_some, Option.bind, seqD, zseqI, idxD, isi_int_non, isi_int_bl, isi_int_int, isi_int_str, isi_int_tup, isi_int_lst, isi_int_dct, isi_bool_non, isi_bool_bl, isi_bool_int, isi_bool_str, isi_bool_tup, isi_bool_lst, isi_bool_dct, isi_tuple_non, isi_tuple_bl, isi_tuple_int, isi_tuple_str, isi_tuple_tup, isi_tuple_lst, isi_tuple_dct, isi_str_non, isi_str_bl, isi_str_int, isi_str_str, isi_str_tup, isi_str_lst, isi_str_dct, isi_list_non, isi_list_bl, isi_list_int, isi_list_str, isi_list_tup, isi_list_lst, isi_list_dct, isi_dict_non, isi_dict_bl, isi_dict_int, isi_dict_str, isi_dict_tup, isi_dict_lst, isi_dict_dct, z1, z2]
    exact h
theorem e_weighed {c : Nat} {fs ws : List (Int × Int)} (hf : ∀ f ∈ fs, Fk c f) (hw : ∀ w ∈ ws, Fk c w) (hk : 2 + fs.length * (2 * c + 1) < 9000) (S : List (List D)) : f_weighed [.tup (fs.map fr), .tup (ws.map fr)] S = .ok (fr (wF (0, 1) fs ws)) S := by
  obtain ⟨e3, e4, h⟩ := w_weighed (d0 := .tup (fs.map fr)) (d1 := .tup (ws.map fr)) (S := S) fs ws (0, 1) 2 .un .un fk0 hf hw hk
  refine fnR (e := [.val (.tup (fs.map fr)), .val (.tup (ws.map fr)), .val (fr (wF (0, 1) fs ws)), e3, e4]) ?_
  refine (sq1 (m1 := ⟨[.val (.tup (fs.map fr)), .val (.tup (ws.map fr)), .val (fr (0, 1)), .un, .un], S⟩) ?_).trans ((sq1 ((for1 (zzip1 ?_)).trans h)).trans (sq2 (rt1 ?_)))
  · simp only [padE, bodyFn, endR, padE, zseq, zret, zif, zpass, znext, zexpr, zasg, gset, gtup, gcons, gnil, zpar, setAll, sval, snew, snil, zsetB, zsetItem, celSet, zk, zvar, zop, toB, zand, zor, znot, zite, zchain, zcons, znil, ztup, zlstF, frz, celD, zcb, zcall, backR, zidx, zneg, zisi, zslice, onone, osome, zlenP, zbld, isBld, appendK, extendK, zlistF, listS, bind_ok, thenS_ok, ofO_some, List.getElem?_cons_zero, List.getElem?_cons_succ, List.set_cons_zero, List.set_cons_succ, List.length_cons, List.length_nil, List.map_cons, List.map_nil, List.replicate, List.cons_append, List.nil_append, List.append_nil, Nat.reduceAdd, Nat.reduceSub, Nat.zero_add, if_true, if_false, ite_true, ite_false, reduceIte, Bool.not_true, Bool.not_false, decide_true, decide_false, Bool.false_eq_true, isND, isNotND, addD, subD, cmpI, lenD, absD, intD, tupleD, Option.map_some, Option.bind_some, Option.bind, seqD, zseqI, idxD, isi_int_non, isi_int_bl, isi_int_int, isi_int_str, isi_int_tup, isi_int_lst, isi_int_dct, isi_bool_non, isi_bool_bl, isi_bool_int, isi_bool_str, isi_bool_tup, isi_bool_lst, isi_bool_dct, isi_tuple_non, isi_tuple_bl, isi_tuple_int, isi_tuple_str, isi_tuple_tup, isi_tuple_lst, isi_tuple_dct, isi_str_non, isi_str_bl, isi_str_int, isi_str_str, isi_str_tup, isi_str_lst, isi_str_dct, isi_list_non, isi_list_bl, isi_list_int, isi_list_str, isi_list_tup, isi_list_lst, isi_list_dct, isi_dict_non, isi_dict_bl, isi_dict_int, isi_dict_str, isi_dict_tup, isi_dict_lst, isi_dict_dct]
  · simp only [bodyFn, endR, padE, zseq, zret, zif, zpass, znext, zexpr, zasg, gset, gtup, gcons, gnil, zpar, setAll, sval, snew, snil, zsetB, zsetItem, celSet, zk, zvar, zop, toB, zand, zor, znot, zite, zchain, zcons, znil, ztup, zlstF, frz, celD, zcb, zcall, backR, zidx, zneg, zisi, zslice, onone, osome, zlenP, zbld, isBld, appendK, extendK, zlistF, listS, bind_ok, thenS_ok, ofO_some, List.getElem?_cons_zero, List.getElem?_cons_succ, List.set_cons_zero, List.set_cons_succ, List.length_cons, List.length_nil, List.map_cons, List.map_nil, List.replicate, List.cons_append, List.nil_append, List.append_nil, Nat.reduceAdd, Nat.reduceSub, Nat.zero_add, if_true, if_false, ite_true, ite_false, reduceIte, Bool.not_true, Bool.not_false, decide_true, decide_false, Bool.false_eq_true, isND, isNotND, addD, subD, cmpI, lenD, absD, intD, tupleD, Option.map_some, Option.bind_some, Option.bind, seqD, zseqI, idxD, isi_int_non, isi_int_bl, isi_int_int, isi_int_str, isi_int_tup, isi_int_lst, isi_int_dct, isi_bool_non, isi_bool_bl, isi_bool_int, isi_bool_str, isi_bool_tup, isi_bool_lst, isi_bool_dct, isi_tuple_non, isi_tuple_bl, isi_tuple_int, isi_tuple_str, isi_tuple_tup, isi_tuple_lst, isi_tuple_dct, isi_str_non, isi_str_bl, isi_str_int, isi_str_str, isi_str_tup, isi_str_lst, isi_str_dct, isi_list_non, isi_list_bl, isi_list_int, isi_list_str, isi_list_tup, isi_list_lst, isi_list_dct, isi_dict_non, isi_dict_bl, isi_dict_int, isi_dict_str, isi_dict_tup, isi_dict_lst, isi_dict_dct]
  · simp only [bodyFn, endR, padE, zseq, zret, zif, zpass, znext, zexpr, zasg, gset, gtup, gcons, gnil, zpar, setAll, sval, snew, snil, zsetB, zsetItem, celSet, zk, zvar, zop, toB, zand, zor, znot, zite, zchain, zcons, znil, ztup, zlstF, frz, celD, zcb, zcall, backR, zidx, zneg, zisi, zslice, onone, osome, zlenP, zbld, isBld, appendK, extendK, zlistF, listS, bind_ok, thenS_ok, ofO_some, List.getElem?_cons_zero, List.getElem?_cons_succ, List.set_cons_zero, List.set_cons_succ, List.length_cons, List.length_nil, List.map_cons, List.map_nil, List.replicate, List.cons_append, List.nil_append, List.append_nil, Nat.reduceAdd, Nat.reduceSub, Nat.zero_add, if_true, if_false, ite_true, ite_false, reduceIte, Bool.not_true, Bool.not_false, decide_true, decide_false, Bool.false_eq_true, isND, isNotND, addD, subD, cmpI, lenD, absD, intD, tupleD, Option.map_some, Option.bind_some, Option.bind, seqD, zseqI, idxD, isi_int_non, isi_int_bl, isi_int_int, isi_int_str, isi_int_tup, isi_int_lst, isi_int_dct, isi_bool_non, isi_bool_bl, isi_bool_int, isi_bool_str, isi_bool_tup, isi_bool_lst, isi_bool_dct, isi_tuple_non, isi_tuple_bl, isi_tuple_int, isi_tuple_str, isi_tuple_tup, isi_tuple_lst, isi_tuple_dct, isi_str_non, isi_str_bl, isi_str_int, isi_str_str, isi_str_tup, isi_str_lst, isi_str_dct, isi_list_non, isi_list_bl, isi_list_int, isi_list_str, isi_list_tup, isi_list_lst, isi_list_dct, isi_dict_non, isi_dict_bl, isi_dict_int, isi_dict_str, isi_dict_tup, isi_dict_lst, isi_dict_dct]
abbrev ones (n : Nat) : List (Int × Int) := List.replicate n (1, 1)
theorem flat_one {α : Type} (x : α) : ∀ n : Nat, (List.replicate n [x]).flatten = List.replicate n x
  | 0 => rfl
  | n + 1 => by simp [List.replicate_succ, flat_one x n]
theorem mul_ones (n : Nat) (hn : n ≤ 1000) : mulZ (.tup [fr (1, 1)]) (.int (n : Nat)) = some (.tup ((ones n).map fr)) := by
  unfold mulZ
  simp only
  rw [if_pos (decide_eq_true ⟨rfl, by omega, by omega, by simp⟩), Int.toNat_natCast, flat_one, List.map_replicate]
theorem ones_ok {n c : Nat} (hc : 2 ≤ c) : ∀ w ∈ ones n, Fk c w := fun w hw => by
  rw [List.eq_of_mem_replicate hw]
  exact fk1.mono hc
theorem small1 : small 1 = true := by decide
theorem e_total1 {c : Nat} {fs ws : List (Int × Int)} (hf : ∀ f ∈ fs, Fk c f) (hw : ∀ w ∈ ws, Fk c w) (hl : fs.length = ws.length) (hn : fs.length < 1000) (hk : 2 + fs.length * (2 * c + 1) < 9000) (S : List (List D)) :
    f_total [.tup (fs.map fr), .tup (ws.map fr)] S = .ok (fr (wF (0, 1) fs ws)) S := by
  have z1 := e_are0 (fun f h => (hf f h).1) hn S
  have z2 := e_are1 (fun w h => (hw w h).1) (show ws.length < 1000 by omega) hl.symm S
  have z3 := e_weighed hf hw hk S
  simp only [f_total, g_total, bodyFn, endR, padE, zseq, zret, zif, zpass, znext, zexpr, zasg, gset, gtup, gcons, gnil, zpar, setAll, sval, snew, snil, zsetB, zsetItem, celSet, zk, zvar, zop, toB, zand, zor, znot, zite, zchain, zcons, znil, ztup, zlstF, frz, celD, zcb, zcall, backR, zidx, zneg, zisi, zslice, onone, osome, zlenP, zbld, isBld, appendK, extendK, zlistF, listS, bind_ok, thenS_ok, ofO_some, List.getElem?_cons_zero, List.getElem?_cons_succ, List.set_cons_zero, List.set_cons_succ, List.length_cons, List.length_nil, List.map_cons, List.map_nil, List.replicate, List.cons_append, List.nil_append, List.append_nil, Nat.reduceAdd, Nat.reduceSub, Nat.zero_add, if_true, if_false, ite_true, ite_false, reduceIte, Bool.not_true, Bool.not_false, decide_true, decide_false, Bool.false_eq_true, isND, isNotND, addD, subD, cmpI, lenD, absD, intD, tupleD, Option.map_some, Option.bind_some, Option.bind, seqD, zseqI, idxD, isi_int_non, isi_int_bl, isi_int_int, isi_int_str, isi_int_tup, isi_int_lst, isi_int_dct, isi_bool_non, isi_bool_bl, isi_bool_int, isi_bool_str, isi_bool_tup, isi_bool_lst, isi_bool_dct, isi_tuple_non, isi_tuple_bl, isi_tuple_int, isi_tuple_str, isi_tuple_tup, isi_tuple_lst, isi_tuple_dct, isi_str_non, isi_str_bl, isi_str_int, isi_str_str, isi_str_tup, isi_str_lst, isi_str_dct, isi_list_non, isi_list_bl, isi_list_int, isi_list_str, isi_list_tup, isi_list_lst, isi_list_dct, isi_dict_non, isi_dict_bl, isi_dict_int, isi_dict_str, isi_dict_tup, isi_dict_lst, isi_dict_dct, z1, List.length_map, z2, z3]
theorem e_total0 {c : Nat} {fs : List (Int × Int)} (hc : 2 ≤ c) (hf : ∀ f ∈ fs, Fk c f) (hn : fs.length < 1000) (hk : 2 + fs.length * (2 * c + 1) < 9000) (S : List (List D)) :
    f_total [.tup (fs.map fr), .non] S = .ok (fr (wF (0, 1) fs (ones fs.length))) S := by
  have z1 := e_are0 (fun f h => (hf f h).1) hn S
  have hw := ones_ok (n := fs.length) hc
  have z2 := e_are1 (fun w h => (hw w h).1) (show (ones fs.length).length < 1000 by simpa using hn) (n := fs.length) (by simp) S
  have z3 := e_weighed hf hw hk S
  have z4 := mul_ones fs.length (by omega)
  simp only [f_total, g_total, bodyFn, endR, padE, zseq, zret, zif, zpass, znext, zexpr, zasg, gset, gtup, gcons, gnil, zpar, setAll, sval, snew, snil, zsetB, zsetItem, celSet, zk, zvar, zop, toB, zand, zor, znot, zite, zchain, zcons, znil, ztup, zlstF, frz, celD, zcb, zcall, backR, zidx, zneg, zisi, zslice, onone, osome, zlenP, zbld, isBld, appendK, extendK, zlistF, listS, bind_ok, thenS_ok, ofO_some, List.getElem?_cons_zero, List.getElem?_cons_succ, List.set_cons_zero, List.set_cons_succ, List.length_cons, List.length_nil, List.map_cons, List.map_nil, List.replicate, List.cons_append, List.nil_append, List.append_nil, Nat.reduceAdd, Nat.reduceSub, Nat.zero_add, if_true, if_false, ite_true, ite_false, reduceIte, Bool.not_true, Bool.not_false, decide_true, decide_false, Bool.false_eq_true, isND, isNotND, addD, subD, cmpI, lenD, absD, intD, tupleD, Option.map_some, Option.bind_some, Option.bind, seqD, zseqI, idxD, isi_int_non, isi_int_bl, isi_int_int, isi_int_str, isi_int_tup, isi_int_lst, isi_int_dct, isi_bool_non, isi_bool_bl, isi_bool_int, isi_bool_str, isi_bool_tup, isi_bool_lst, isi_bool_dct, isi_tuple_non, isi_tuple_bl, isi_tuple_int, isi_tuple_str, isi_tuple_tup, isi_tuple_lst, isi_tuple_dct, isi_str_non, isi_str_bl, isi_str_int, isi_str_str, isi_str_tup, isi_str_lst, isi_str_dct, isi_list_non, isi_list_bl, isi_list_int, isi_list_str, isi_list_tup, isi_list_lst, isi_list_dct, isi_dict_non, isi_dict_bl, isi_dict_int, isi_dict_str, isi_dict_tup, isi_dict_lst, isi_dict_dct, z1, List.length_map, small1, z4, z2, z3]
theorem e_fraction {t l : Int} {k : Nat} (h : l ≠ 0) (hl : Bt k l) (hk : k < 9000) (S : List (List D)) : f_fraction [.int t, .int l] S = .ok (fr (cutF t l)) S := by
  have e := (eqI l 0).1
  rw [decide_eq_false h] at e
  simp only [f_fraction, g_fraction, bodyFn, endR, padE, zseq, zret, zif, zpass, znext, zexpr, zasg, gset, gtup, gcons, gnil, zpar, setAll, sval, snew, snil, zsetB, zsetItem, celSet, zk, zvar, zop, toB, zand, zor, znot, zite, zchain, zcons, znil, ztup, zlstF, frz, celD, zcb, zcall, backR, zidx, zneg, zisi, zslice, onone, osome, zlenP, zbld, isBld, appendK, extendK, zlistF, listS, bind_ok, thenS_ok, ofO_some, List.getElem?_cons_zero, List.getElem?_cons_succ, List.set_cons_zero, List.set_cons_succ, List.length_cons, List.length_nil, List.map_cons, List.map_nil, List.replicate, List.cons_append, List.nil_append, List.append_nil, Nat.reduceAdd, Nat.reduceSub, Nat.zero_add, if_true, if_false, ite_true, ite_false, reduceIte, Bool.not_true, Bool.not_false, decide_true, decide_false, Bool.false_eq_true, isND, isNotND, addD, subD, cmpI, lenD, absD, intD, tupleD, Option.map_some, Option.bind_some, Option.bind, seqD, zseqI, idxD, isi_int_non, isi_int_bl, isi_int_int, isi_int_str, isi_int_tup, isi_int_lst, isi_int_dct, isi_bool_non, isi_bool_bl, isi_bool_int, isi_bool_str, isi_bool_tup, isi_bool_lst, isi_bool_dct, isi_tuple_non, isi_tuple_bl, isi_tuple_int, isi_tuple_str, isi_tuple_tup, isi_tuple_lst, isi_tuple_dct, isi_str_non, isi_str_bl, isi_str_int, isi_str_str, isi_str_tup, isi_str_lst, isi_str_dct, isi_list_non, isi_list_bl, isi_list_int, isi_list_str, isi_list_tup, isi_list_lst, isi_list_dct, isi_dict_non, isi_dict_bl, isi_dict_int, isi_dict_str, isi_dict_tup, isi_dict_lst, isi_dict_dct, e_is_integer0, e, e_cut h hl hk]
theorem e__law_ones (n : Nat) (hn : n ≤ 1000) (S : List (List D)) : f__law_ones [.int (n : Nat)] S = .ok (.tup ((ones n).map fr)) S := by
  simp only [f__law_ones, g__law_ones, bodyFn, endR, padE, zseq, zret, zif, zpass, znext, zexpr, zasg, gset, gtup, gcons, gnil, zpar, setAll, sval, snew, snil, zsetB, zsetItem, celSet, zk, zvar, zop, toB, zand, zor, znot, zite, zchain, zcons, znil, ztup, zlstF, frz, celD, zcb, zcall, backR, zidx, zneg, zisi, zslice, onone, osome, zlenP, zbld, isBld, appendK, extendK, zlistF, listS, bind_ok, thenS_ok, ofO_some, List.getElem?_cons_zero, List.getElem?_cons_succ, List.set_cons_zero, List.set_cons_succ, List.length_cons, List.length_nil, List.map_cons, List.map_nil, List.replicate, List.cons_append, List.nil_append, List.append_nil, Nat.reduceAdd, Nat.reduceSub, Nat.zero_add, if_true, if_false, ite_true, ite_false, reduceIte, Bool.not_true, Bool.not_false, decide_true, decide_false, Bool.false_eq_true, isND, isNotND, addD, subD, cmpI, lenD, absD, intD, tupleD, Option.map_some, Option.bind_some, Option.bind, seqD, zseqI, idxD, isi_int_non, isi_int_bl, isi_int_int, isi_int_str, isi_int_tup, isi_int_lst, isi_int_dct, isi_bool_non, isi_bool_bl, isi_bool_int, isi_bool_str, isi_bool_tup, isi_bool_lst, isi_bool_dct, isi_tuple_non, isi_tuple_bl, isi_tuple_int, isi_tuple_str, isi_tuple_tup, isi_tuple_lst, isi_tuple_dct, isi_str_non, isi_str_bl, isi_str_int, isi_str_str, isi_str_tup, isi_str_lst, isi_str_dct, isi_list_non, isi_list_bl, isi_list_int, isi_list_str, isi_list_tup, isi_list_lst, isi_list_dct, isi_dict_non, isi_dict_bl, isi_dict_int, isi_dict_str, isi_dict_tup, isi_dict_lst, isi_dict_dct, small1, small2, mul_ones n hn]
/-! the law's own gcd, fractions, sums -/
theorem w_gcd {d0 : D} {e2 : Sl} (S : List (List D)) : ∀ (n a b : Nat), b < n → whileL (zop gtD (zvar 3) (zk (.int 0))) (zseq (zpar [1, 3] (sval (zvar 3) (sval (zop modD (zcb intD (zcons (zvar 1) znil)) (zvar 3)) snil))) znext) n ⟨[.val d0, .val (.int a), e2, .val (.int b)], S⟩ = .nx ⟨[.val d0, .val (.int (Nat.gcd a b)), e2, .val (.int 0)], S⟩
  | 0, a, b, h => by omega
  | n + 1, a, 0, h => by
    have h1 : decide ((0 : Int) < ((0 : Nat) : Int)) = false := by decide
    unfold whileL
    simp only [bodyFn, endR, padE, zseq, zret, zif, zpass, znext, zexpr, zasg, gset, gtup, gcons, gnil, zpar, setAll, sval, snew, snil, zsetB, zsetItem, celSet, zk, zvar, zop, toB, zand, zor, znot, zite, zchain, zcons, znil, ztup, zlstF, frz, celD, zcb, zcall, backR, zidx, zneg, zisi, zslice, onone, osome, zlenP, zbld, isBld, appendK, extendK, zlistF, listS, bind_ok, thenS_ok, ofO_some, List.getElem?_cons_zero, List.getElem?_cons_succ, List.set_cons_zero, List.set_cons_succ, List.length_cons, List.length_nil, List.map_cons, List.map_nil, List.replicate, List.cons_append, List.nil_append, List.append_nil, Nat.reduceAdd, Nat.reduceSub, Nat.zero_add, if_true, if_false, ite_true, ite_false, reduceIte, Bool.not_true, Bool.not_false, decide_true, decide_false, Bool.false_eq_true, isND, isNotND, addD, subD, cmpI, lenD, absD, intD, tupleD, Option.map_some, Option.bind_some, Option.bind, seqD, zseqI, idxD, isi_int_non, isi_int_bl, isi_int_int, isi_int_str, isi_int_tup, isi_int_lst, isi_int_dct, isi_bool_non, isi_bool_bl, isi_bool_int, isi_bool_str, isi_bool_tup, isi_bool_lst, isi_bool_dct, isi_tuple_non, isi_tuple_bl, isi_tuple_int, isi_tuple_str, isi_tuple_tup, isi_tuple_lst, isi_tuple_dct, isi_str_non, isi_str_bl, isi_str_int, isi_str_str, isi_str_tup, isi_str_lst, isi_str_dct, isi_list_non, isi_list_bl, isi_list_int, isi_list_str, isi_list_tup, isi_list_lst, isi_list_dct, isi_dict_non, isi_dict_bl, isi_dict_int, isi_dict_str, isi_dict_tup, isi_dict_lst, isi_dict_dct, h1, Nat.gcd_zero_right]
    rfl
  | n + 1, a, b + 1, h => by
    have hm : a % (b + 1) < b + 1 := Nat.mod_lt a (by omega)
    have ih := w_gcd (d0 := d0) (e2 := e2) S n (b + 1) (a % (b + 1)) (by omega)
    have h1 : decide ((0 : Int) < ((b + 1 : Nat) : Int)) = true := decide_eq_true (by omega)
    have h3 : modD (.int (a : Int)) (.int ((b + 1 : Nat) : Int)) = some (.int ((a % (b + 1) : Nat) : Int)) := by
      rw [modB (by omega)]
      rfl
    unfold whileL
    simp only [bodyFn, endR, padE, zseq, zret, zif, zpass, znext, zexpr, zasg, gset, gtup, gcons, gnil, zpar, setAll, sval, snew, snil, zsetB, zsetItem, celSet, zk, zvar, zop, toB, zand, zor, znot, zite, zchain, zcons, znil, ztup, zlstF, frz, celD, zcb, zcall, backR, zidx, zneg, zisi, zslice, onone, osome, zlenP, zbld, isBld, appendK, extendK, zlistF, listS, bind_ok, thenS_ok, ofO_some, List.getElem?_cons_zero, List.getElem?_cons_succ, List.set_cons_zero, List.set_cons_succ, List.length_cons, List.length_nil, List.map_cons, List.map_nil, List.replicate, List.cons_append, List.nil_append, List.append_nil, Nat.reduceAdd, Nat.reduceSub, Nat.zero_add, if_true, if_false, ite_true, ite_false, reduceIte, Bool.not_true, Bool.not_false, decide_true, decide_false, Bool.false_eq_true, isND, isNotND, addD, subD, cmpI, lenD, absD, intD, tupleD, Option.map_some, Option.bind_some, Option.bind, seqD, zseqI, idxD, isi_int_non, isi_int_bl, isi_int_int, isi_int_str, isi_int_tup, isi_int_lst, isi_int_dct, isi_bool_non, isi_bool_bl, isi_bool_int, isi_bool_str, isi_bool_tup, isi_bool_lst, isi_bool_dct, isi_tuple_non, isi_tuple_bl, isi_tuple_int, isi_tuple_str, isi_tuple_tup, isi_tuple_lst, isi_tuple_dct, isi_str_non, isi_str_bl, isi_str_int, isi_str_str, isi_str_tup, isi_str_lst, isi_str_dct, isi_list_non, isi_list_bl, isi_list_int, isi_list_str, isi_list_tup, isi_list_lst, isi_list_dct, isi_dict_non, isi_dict_bl, isi_dict_int, isi_dict_str, isi_dict_tup, isi_dict_lst, isi_dict_dct, h1, h3]
    rw [ih, Nat.gcd_comm a (b + 1), Nat.gcd_rec (b + 1) a, Nat.gcd_comm]
end Z

set_option Elab.async false
set_option linter.all false
set_option maxRecDepth 100000
set_option maxHeartbeats 2000000
namespace Z
open PySem PySem.Spec PyProof.Rows L2 RZ
abbrev gcdB : DenS := zseq (zasg (zcb absD (zcons (zcb intD (zcons (zvar 2) znil)) znil)) (gset 3)) (zseq (zwhile (zop gtD (zvar 3) (zk (.int 0))) (zseq (zpar [1, 3] (sval (zvar 3) (sval (zop modD (zcb intD (zcons (zvar 1) znil)) (zvar 3)) snil))) znext)) znext)
theorem gcd_step {d0 : D} {e3 : Sl} (S : List (List D)) (a : Nat) (b : Int) : gcdB ⟨[.val d0, .val (.int a), .val (.int b), e3], S⟩ = .nx ⟨[.val d0, .val (.int (Nat.gcd a b.natAbs)), .val (.int b), .val (.int 0)], S⟩ := by
  refine (sq1 (m1 := ⟨[.val d0, .val (.int a), .val (.int b), .val (.int b.natAbs)], S⟩) ?_).trans ((sq1 (w_gcd S _ a b.natAbs ?_)).trans rfl)
  · simp only [bodyFn, endR, padE, zseq, zret, zif, zpass, znext, zexpr, zasg, gset, gtup, gcons, gnil, zpar, setAll, sval, snew, snil, zsetB, zsetItem, celSet, zk, zvar, zop, toB, zand, zor, znot, zite, zchain, zcons, znil, ztup, zlstF, frz, celD, zcb, zcall, backR, zidx, zneg, zisi, zslice, onone, osome, zlenP, zbld, isBld, appendK, extendK, zlistF, listS, bind_ok, thenS_ok, ofO_some, List.getElem?_cons_zero, List.getElem?_cons_succ, List.set_cons_zero, List.set_cons_succ, List.length_cons, List.length_nil, List.map_cons, List.map_nil, List.replicate, List.cons_append, List.nil_append, List.append_nil, Nat.reduceAdd, Nat.reduceSub, Nat.zero_add, if_true, if_false, ite_true, ite_false, reduceIte, Bool.not_true, Bool.not_false, decide_true, decide_false, Bool.false_eq_true, isND, isNotND, addD, subD, cmpI, lenD, absD, intD, tupleD, Option.map_some, Option.bind_some, Option.bind, seqD, zseqI, idxD, isi_int_non, isi_int_bl, isi_int_int, isi_int_str, isi_int_tup, isi_int_lst, isi_int_dct, isi_bool_non, isi_bool_bl, isi_bool_int, isi_bool_str, isi_bool_tup, isi_bool_lst, isi_bool_dct, isi_tuple_non, isi_tuple_bl, isi_tuple_int, isi_tuple_str, isi_tuple_tup, isi_tuple_lst, isi_tuple_dct, isi_str_non, isi_str_bl, isi_str_int, isi_str_str, isi_str_tup, isi_str_lst, isi_str_dct, isi_list_non, isi_list_bl, isi_list_int, isi_list_str, isi_list_tup, isi_list_lst, isi_list_dct, isi_dict_non, isi_dict_bl, isi_dict_int, isi_dict_str, isi_dict_tup, isi_dict_lst, isi_dict_dct, absN]
  · simp [fuelM, slSz]
    omega
theorem e__law_gcd2 (a b : Int) (S : List (List D)) : f__law_gcd [.lst [.int a, .int b]] S = .ok (.int (Int.gcd a b)) S := by
  refine fnR (e := [.val (.lst [.int a, .int b]), .val (.int (Nat.gcd a.natAbs b.natAbs)), .val (.int b), .val (.int 0)]) ?_
  have g1 := gcd_step (d0 := .lst [.int a, .int b]) (e3 := .un) S 0 a
  have g2 := gcd_step (d0 := .lst [.int a, .int b]) (e3 := .val (.int 0)) S (Nat.gcd 0 a.natAbs) b
  rw [Nat.gcd_zero_left] at g1 g2
  refine (sq1 (m1 := ⟨[.val (.lst [.int a, .int b]), .val (.int (0 : Nat)), .un, .un], S⟩) ?_).trans ((sq1 ((for1 (ds := [.int a, .int b]) (m1 := ⟨[.val (.lst [.int a, .int b]), .val (.int (0 : Nat)), .un, .un], S⟩) ?_).trans ((fo1 rfl g1).trans ((fo1 rfl g2).trans fo0)))).trans (sq2 (rt1 ?_)))
  · simp only [padE, bodyFn, endR, padE, zseq, zret, zif, zpass, znext, zexpr, zasg, gset, gtup, gcons, gnil, zpar, setAll, sval, snew, snil, zsetB, zsetItem, celSet, zk, zvar, zop, toB, zand, zor, znot, zite, zchain, zcons, znil, ztup, zlstF, frz, celD, zcb, zcall, backR, zidx, zneg, zisi, zslice, onone, osome, zlenP, zbld, isBld, appendK, extendK, zlistF, listS, bind_ok, thenS_ok, ofO_some, List.getElem?_cons_zero, List.getElem?_cons_succ, List.set_cons_zero, List.set_cons_succ, List.length_cons, List.length_nil, List.map_cons, List.map_nil, List.replicate, List.cons_append, List.nil_append, List.append_nil, Nat.reduceAdd, Nat.reduceSub, Nat.zero_add, if_true, if_false, ite_true, ite_false, reduceIte, Bool.not_true, Bool.not_false, decide_true, decide_false, Bool.false_eq_true, isND, isNotND, addD, subD, cmpI, lenD, absD, intD, tupleD, Option.map_some, Option.bind_some, Option.bind, seqD, zseqI, idxD, isi_int_non, isi_int_bl, isi_int_int, isi_int_str, isi_int_tup, isi_int_lst, isi_int_dct, isi_bool_non, isi_bool_bl, isi_bool_int, isi_bool_str, isi_bool_tup, isi_bool_lst, isi_bool_dct, isi_tuple_non, isi_tuple_bl, isi_tuple_int, isi_tuple_str, isi_tuple_tup, isi_tuple_lst, isi_tuple_dct, isi_str_non, isi_str_bl, isi_str_int, isi_str_str, isi_str_tup, isi_str_lst, isi_str_dct, isi_list_non, isi_list_bl, isi_list_int, isi_list_str, isi_list_tup, isi_list_lst, isi_list_dct, isi_dict_non, isi_dict_bl, isi_dict_int, isi_dict_str, isi_dict_tup, isi_dict_lst, isi_dict_dct]
    rfl
  · simp only [bodyFn, endR, padE, zseq, zret, zif, zpass, znext, zexpr, zasg, gset, gtup, gcons, gnil, zpar, setAll, sval, snew, snil, zsetB, zsetItem, celSet, zk, zvar, zop, toB, zand, zor, znot, zite, zchain, zcons, znil, ztup, zlstF, frz, celD, zcb, zcall, backR, zidx, zneg, zisi, zslice, onone, osome, zlenP, zbld, isBld, appendK, extendK, zlistF, listS, bind_ok, thenS_ok, ofO_some, List.getElem?_cons_zero, List.getElem?_cons_succ, List.set_cons_zero, List.set_cons_succ, List.length_cons, List.length_nil, List.map_cons, List.map_nil, List.replicate, List.cons_append, List.nil_append, List.append_nil, Nat.reduceAdd, Nat.reduceSub, Nat.zero_add, if_true, if_false, ite_true, ite_false, reduceIte, Bool.not_true, Bool.not_false, decide_true, decide_false, Bool.false_eq_true, isND, isNotND, addD, subD, cmpI, lenD, absD, intD, tupleD, Option.map_some, Option.bind_some, Option.bind, seqD, zseqI, idxD, isi_int_non, isi_int_bl, isi_int_int, isi_int_str, isi_int_tup, isi_int_lst, isi_int_dct, isi_bool_non, isi_bool_bl, isi_bool_int, isi_bool_str, isi_bool_tup, isi_bool_lst, isi_bool_dct, isi_tuple_non, isi_tuple_bl, isi_tuple_int, isi_tuple_str, isi_tuple_tup, isi_tuple_lst, isi_tuple_dct, isi_str_non, isi_str_bl, isi_str_int, isi_str_str, isi_str_tup, isi_str_lst, isi_str_dct, isi_list_non, isi_list_bl, isi_list_int, isi_list_str, isi_list_tup, isi_list_lst, isi_list_dct, isi_dict_non, isi_dict_bl, isi_dict_int, isi_dict_str, isi_dict_tup, isi_dict_lst, isi_dict_dct]
  · simp only [bodyFn, endR, padE, zseq, zret, zif, zpass, znext, zexpr, zasg, gset, gtup, gcons, gnil, zpar, setAll, sval, snew, snil, zsetB, zsetItem, celSet, zk, zvar, zop, toB, zand, zor, znot, zite, zchain, zcons, znil, ztup, zlstF, frz, celD, zcb, zcall, backR, zidx, zneg, zisi, zslice, onone, osome, zlenP, zbld, isBld, appendK, extendK, zlistF, listS, bind_ok, thenS_ok, ofO_some, List.getElem?_cons_zero, List.getElem?_cons_succ, List.set_cons_zero, List.set_cons_succ, List.length_cons, List.length_nil, List.map_cons, List.map_nil, List.replicate, List.cons_append, List.nil_append, List.append_nil, Nat.reduceAdd, Nat.reduceSub, Nat.zero_add, if_true, if_false, ite_true, ite_false, reduceIte, Bool.not_true, Bool.not_false, decide_true, decide_false, Bool.false_eq_true, isND, isNotND, addD, subD, cmpI, lenD, absD, intD, tupleD, Option.map_some, Option.bind_some, Option.bind, seqD, zseqI, idxD, isi_int_non, isi_int_bl, isi_int_int, isi_int_str, isi_int_tup, isi_int_lst, isi_int_dct, isi_bool_non, isi_bool_bl, isi_bool_int, isi_bool_str, isi_bool_tup, isi_bool_lst, isi_bool_dct, isi_tuple_non, isi_tuple_bl, isi_tuple_int, isi_tuple_str, isi_tuple_tup, isi_tuple_lst, isi_tuple_dct, isi_str_non, isi_str_bl, isi_str_int, isi_str_str, isi_str_tup, isi_str_lst, isi_str_dct, isi_list_non, isi_list_bl, isi_list_int, isi_list_str, isi_list_tup, isi_list_lst, isi_list_dct, isi_dict_non, isi_dict_bl, isi_dict_int, isi_dict_str, isi_dict_tup, isi_dict_lst, isi_dict_dct]
    rfl
theorem gcd_bt {t l : Int} {k : Nat} (h : l ≠ 0) (hl : Bt k l) : Bt k (Int.gcd t l : Int) := by
  have h2 := Int.gcd_le_natAbs_right t h
  unfold Bt at *
  omega
theorem e__law_fraction {t l : Int} {k : Nat} (h : l ≠ 0) (hl : Bt k l) (hk : k < 9000) (S : List (List D)) : f__law_fraction [.int t, .int l] S = .ok (fr (cutF t l)) S := by
  have hs := sgn_ne (t := t) h
  have hb := sgn_bt (t := t) h hl
  have hg := gcd_bt (t := t) h hl
  refine fnR (e := [.val (.int t), .val (.int l), .val (.int (sgn t l))]) ?_
  refine (sq1 (as1 (d := .int (sgn t l)) (m1 := ⟨[.val (.int t), .val (.int l), .un], S⟩) ?_ rfl)).trans (sq2 (rt1 ?_))
  · unfold sgn
    by_cases h0 : 0 < l
    · simp only [padE, bodyFn, endR, padE, zseq, zret, zif, zpass, znext, zexpr, zasg, gset, gtup, gcons, gnil, zpar, setAll, sval, snew, snil, zsetB, zsetItem, celSet, zk, zvar, zop, toB, zand, zor, znot, zite, zchain, zcons, znil, ztup, zlstF, frz, celD, zcb, zcall, backR, zidx, zneg, zisi, zslice, onone, osome, zlenP, zbld, isBld, appendK, extendK, zlistF, listS, bind_ok, thenS_ok, ofO_some, List.getElem?_cons_zero, List.getElem?_cons_succ, List.set_cons_zero, List.set_cons_succ, List.length_cons, List.length_nil, List.map_cons, List.map_nil, List.replicate, List.cons_append, List.nil_append, List.append_nil, Nat.reduceAdd, Nat.reduceSub, Nat.zero_add, if_true, if_false, ite_true, ite_false, reduceIte, Bool.not_true, Bool.not_false, decide_true, decide_false, Bool.false_eq_true, isND, isNotND, addD, subD, cmpI, lenD, absD, intD, tupleD, Option.map_some, Option.bind_some, Option.bind, seqD, zseqI, idxD, isi_int_non, isi_int_bl, isi_int_int, isi_int_str, isi_int_tup, isi_int_lst, isi_int_dct, isi_bool_non, isi_bool_bl, isi_bool_int, isi_bool_str, isi_bool_tup, isi_bool_lst, isi_bool_dct, isi_tuple_non, isi_tuple_bl, isi_tuple_int, isi_tuple_str, isi_tuple_tup, isi_tuple_lst, isi_tuple_dct, isi_str_non, isi_str_bl, isi_str_int, isi_str_str, isi_str_tup, isi_str_lst, isi_str_dct, isi_list_non, isi_list_bl, isi_list_int, isi_list_str, isi_list_tup, isi_list_lst, isi_list_dct, isi_dict_non, isi_dict_bl, isi_dict_int, isi_dict_str, isi_dict_tup, isi_dict_lst, isi_dict_dct, small2, e__law_gcd2, decide_eq_true h0, if_pos h0, mulB hg (show Bt 2 1 from Bt.lit (by decide)) (show k + 2 < 1000000 by omega), Int.mul_one]
    · simp only [padE, bodyFn, endR, padE, zseq, zret, zif, zpass, znext, zexpr, zasg, gset, gtup, gcons, gnil, zpar, setAll, sval, snew, snil, zsetB, zsetItem, celSet, zk, zvar, zop, toB, zand, zor, znot, zite, zchain, zcons, znil, ztup, zlstF, frz, celD, zcb, zcall, backR, zidx, zneg, zisi, zslice, onone, osome, zlenP, zbld, isBld, appendK, extendK, zlistF, listS, bind_ok, thenS_ok, ofO_some, List.getElem?_cons_zero, List.getElem?_cons_succ, List.set_cons_zero, List.set_cons_succ, List.length_cons, List.length_nil, List.map_cons, List.map_nil, List.replicate, List.cons_append, List.nil_append, List.append_nil, Nat.reduceAdd, Nat.reduceSub, Nat.zero_add, if_true, if_false, ite_true, ite_false, reduceIte, Bool.not_true, Bool.not_false, decide_true, decide_false, Bool.false_eq_true, isND, isNotND, addD, subD, cmpI, lenD, absD, intD, tupleD, Option.map_some, Option.bind_some, Option.bind, seqD, zseqI, idxD, isi_int_non, isi_int_bl, isi_int_int, isi_int_str, isi_int_tup, isi_int_lst, isi_int_dct, isi_bool_non, isi_bool_bl, isi_bool_int, isi_bool_str, isi_bool_tup, isi_bool_lst, isi_bool_dct, isi_tuple_non, isi_tuple_bl, isi_tuple_int, isi_tuple_str, isi_tuple_tup, isi_tuple_lst, isi_tuple_dct, isi_str_non, isi_str_bl, isi_str_int, isi_str_str, isi_str_tup, isi_str_lst, isi_str_dct, isi_list_non, isi_list_bl, isi_list_int, isi_list_str, isi_list_tup, isi_list_lst, isi_list_dct, isi_dict_non, isi_dict_bl, isi_dict_int, isi_dict_str, isi_dict_tup, isi_dict_lst, isi_dict_dct, small2, e__law_gcd2, decide_eq_false h0, if_neg h0, mulB hg (show Bt 2 (-1) from Bt.lit (by decide)) (show k + 2 < 1000000 by omega), Int.mul_neg, Int.mul_one]
  · simp only [bodyFn, endR, padE, zseq, zret, zif, zpass, znext, zexpr, zasg, gset, gtup, gcons, gnil, zpar, setAll, sval, snew, snil, zsetB, zsetItem, celSet, zk, zvar, zop, toB, zand, zor, znot, zite, zchain, zcons, znil, ztup, zlstF, frz, celD, zcb, zcall, backR, zidx, zneg, zisi, zslice, onone, osome, zlenP, zbld, isBld, appendK, extendK, zlistF, listS, bind_ok, thenS_ok, ofO_some, List.getElem?_cons_zero, List.getElem?_cons_succ, List.set_cons_zero, List.set_cons_succ, List.length_cons, List.length_nil, List.map_cons, List.map_nil, List.replicate, List.cons_append, List.nil_append, List.append_nil, Nat.reduceAdd, Nat.reduceSub, Nat.zero_add, if_true, if_false, ite_true, ite_false, reduceIte, Bool.not_true, Bool.not_false, decide_true, decide_false, Bool.false_eq_true, isND, isNotND, addD, subD, cmpI, lenD, absD, intD, tupleD, Option.map_some, Option.bind_some, Option.bind, seqD, zseqI, idxD, isi_int_non, isi_int_bl, isi_int_int, isi_int_str, isi_int_tup, isi_int_lst, isi_int_dct, isi_bool_non, isi_bool_bl, isi_bool_int, isi_bool_str, isi_bool_tup, isi_bool_lst, isi_bool_dct, isi_tuple_non, isi_tuple_bl, isi_tuple_int, isi_tuple_str, isi_tuple_tup, isi_tuple_lst, isi_tuple_dct, isi_str_non, isi_str_bl, isi_str_int, isi_str_str, isi_str_tup, isi_str_lst, isi_str_dct, isi_list_non, isi_list_bl, isi_list_int, isi_list_str, isi_list_tup, isi_list_lst, isi_list_dct, isi_dict_non, isi_dict_bl, isi_dict_int, isi_dict_str, isi_dict_tup, isi_dict_lst, isi_dict_dct, fdivB hs hb hk, small2]
    rfl
def sF : Int × Int → List (Int × Int) → List (Int × Int) → Int × Int
  | p, f :: fs, w :: ws => sF (p.1 * (f.2 * w.2) + f.1 * w.1 * p.2, p.2 * (f.2 * w.2)) fs ws
  | p, _, _ => p
def Sk (k : Nat) (p : Int × Int) : Prop := p.2 ≠ 0 ∧ Bt k p.1 ∧ Bt k p.2
theorem s_step {k c : Nat} {p f w : Int × Int} (hp : Sk k p) (hf : Fk c f) (hw : Fk c w) : Sk (k + (2 * c + 1)) (p.1 * (f.2 * w.2) + f.1 * w.1 * p.2, p.2 * (f.2 * w.2)) ∧ vl (p.1 * (f.2 * w.2) + f.1 * w.1 * p.2, p.2 * (f.2 * w.2)) = vl p + vl f * vl w := by
  have b1 := hf.2.2.mul hw.2.2
  have b2 := (hp.2.1.mul b1).add ((hf.2.1.mul hw.2.1).mul hp.2.2)
  refine ⟨⟨Int.mul_ne_zero hp.1 (Int.mul_ne_zero hf.1.ne hw.1.ne), b2.mono (by omega), (hp.2.2.mul b1).mono (by omega)⟩, ?_⟩
  have q0 := castn hp.1
  have q1 := castn hf.1.ne
  have q2 := castn hw.1.ne
  unfold vl
  push_cast
  grind
theorem sF_ok {c : Nat} : ∀ (fs ws : List (Int × Int)) (p : Int × Int) (k : Nat), Sk k p → (∀ f ∈ fs, Fk c f) → (∀ w ∈ ws, Fk c w) → Sk (k + fs.length * (2 * c + 1)) (sF p fs ws) ∧ vl (sF p fs ws) = vl p + wsum fs ws
  | [], ws, p, k, hp, _, _ => ⟨⟨hp.1, hp.2.1.mono (by simp), hp.2.2.mono (by simp)⟩, by simp [sF, wsum, Rat.add_zero]⟩
  | f :: fs, [], p, k, hp, _, _ => ⟨⟨hp.1, hp.2.1.mono (by simp), hp.2.2.mono (by simp)⟩, by simp [sF, wsum, Rat.add_zero]⟩
  | f :: fs, w :: ws, p, k, hp, hf, hw => by
    obtain ⟨p1, p2⟩ := s_step hp (hf f (List.mem_cons_self ..)) (hw w (List.mem_cons_self ..))
    obtain ⟨r1, r2⟩ := sF_ok fs ws _ _ p1 (fun x hx => hf x (List.mem_cons_of_mem _ hx)) (fun x hx => hw x (List.mem_cons_of_mem _ hx))
    have e : (fs.length + 1) * (2 * c + 1) = fs.length * (2 * c + 1) + (2 * c + 1) := Nat.succ_mul _ _
    refine ⟨?_, ?_⟩
    · show Sk _ (sF _ fs ws)
      rw [List.length_cons, e, show k + (fs.length * (2 * c + 1) + (2 * c + 1)) = k + (2 * c + 1) + fs.length * (2 * c + 1) by omega]
      exact r1
    · show vl (sF _ fs ws) = _
      rw [r2, p2]
      show _ = vl p + (vl f * vl w + wsum fs ws)
      grind
theorem w_sum {c : Nat} {d0 d1 : D} {S : List (List D)} : ∀ (fs ws : List (Int × Int)) (p : Int × Int) (k : Nat) (e4 e5 e6 : Sl), Sk k p → (∀ f ∈ fs, Fk c f) → (∀ w ∈ ws, Fk c w) → k + fs.length * (2 * c + 1) < 9000 →
    ∃ e4' e5' e6', forL (gtup 2 (gcons (gset 4) (gcons (gset 5) gnil))) (zseq (zasg (zop mulZ (zidx (zvar 4) (zk (.int 1))) (zidx (zvar 5) (zk (.int 1)))) (gset 6))
  (zseq (zasg (zop addD (zop mulZ (zvar 2) (zvar 6)) (zop mulZ (zop mulZ (zidx (zvar 4) (zk (.int 0))) (zidx (zvar 5) (zk (.int 0)))) (zvar 3))) (gset 2))
  (zseq (zasg (zop mulZ (zvar 3) (zvar 6)) (gset 3))
  znext))) (List.zipWith fw fs ws) ⟨[.val d0, .val d1, .val (.int p.1), .val (.int p.2), e4, e5, e6], S⟩
      = .nx ⟨[.val d0, .val d1, .val (.int (sF p fs ws).1), .val (.int (sF p fs ws).2), e4', e5', e6'], S⟩
  | [], ws, p, k, e4, e5, e6, _, _, _, _ => ⟨e4, e5, e6, by simp [forL, sF]⟩
  | f :: fs, [], p, k, e4, e5, e6, _, _, _, _ => ⟨e4, e5, e6, by simp [forL, sF]⟩
  | f :: fs, w :: ws, p, k, e4, e5, e6, hp, hf, hw, hk => by
    have hk2 : (fs.length + 1) * (2 * c + 1) = fs.length * (2 * c + 1) + (2 * c + 1) := Nat.succ_mul _ _
    rw [List.length_cons, hk2] at hk
    have f1 := hf f (List.mem_cons_self ..)
    have w1 := hw w (List.mem_cons_self ..)
    have q1 := (s_step hp f1 w1).1
    obtain ⟨e4', e5', e6', h⟩ := w_sum (d0 := d0) (d1 := d1) (S := S) fs ws _ _ (.val (fr f)) (.val (fr w)) (.val (.int (f.2 * w.2))) q1 (fun x hx => hf x (List.mem_cons_of_mem _ hx)) (fun x hx => hw x (List.mem_cons_of_mem _ hx)) (by omega)
    refine ⟨e4', e5', e6', ?_⟩
    have b1 := f1.2.2.mul w1.2.2
    simp only [List.zipWith_cons_cons, forL, bodyFn, endR, padE, zseq, zret, zif, zpass, znext, zexpr, zasg, gset, gtup, gcons, gnil, zpar, setAll, sval, snew, snil, zsetB, zsetItem, celSet, zk, zvar, zop, toB, zand, zor, znot, zite, zchain, zcons, znil, ztup, zlstF, frz, celD, zcb, zcall, backR, zidx, zneg, zisi, zslice, onone, osome, zlenP, zbld, isBld, appendK, extendK, zlistF, listS, bind_ok, thenS_ok, ofO_some, List.getElem?_cons_zero, List.getElem?_cons_succ, List.set_cons_zero, List.set_cons_succ, List.length_cons, List.length_nil, List.map_cons, List.map_nil, List.replicate, List.cons_append, List.nil_append, List.append_nil, Nat.reduceAdd, Nat.reduceSub, Nat.zero_add, if_true, if_false, ite_true, ite_false, reduceIte, Bool.not_true, Bool.not_false, decide_true, decide_false, Bool.false_eq_true, isND, isNotND, addD, subD, cmpI, lenD, absD, intD, tupleD, Option.map_some, Option.bind_some, Option.bind, seqD, zseqI, idxD, isi_int_non, isi_int_bl, isi_int_int, isi_int_str, isi_int_tup, isi_int_lst, isi_int_dct, isi_bool_non, isi_bool_bl, isi_bool_int, isi_bool_str, isi_bool_tup, isi_bool_lst, isi_bool_dct, isi_tuple_non, isi_tuple_bl, isi_tuple_int, isi_tuple_str, isi_tuple_tup, isi_tuple_lst, isi_tuple_dct, isi_str_non, isi_str_bl, isi_str_int, isi_str_str, isi_str_tup, isi_str_lst, isi_str_dct, isi_list_non, isi_list_bl, isi_list_int, isi_list_str, isi_list_tup, isi_list_lst, isi_list_dct, isi_dict_non, isi_dict_bl, isi_dict_int, isi_dict_str, isi_dict_tup, isi_dict_lst, isi_dict_dct, at0, at1, mulB f1.2.2 w1.2.2 (by omega), mulB hp.2.1 b1 (by omega), mulB f1.2.1 w1.2.1 (by omega), mulB (f1.2.1.mul w1.2.1) hp.2.2 (by omega), mulB hp.2.2 b1 (by omega)]
    exact h
theorem e__law_sum {c : Nat} {fs ws : List (Int × Int)} (hf : ∀ f ∈ fs, Fk c f) (hw : ∀ w ∈ ws, Fk c w) (hk : 2 + fs.length * (2 * c + 1) < 9000) (S : List (List D)) : f__law_sum [.tup (fs.map fr), .tup (ws.map fr)] S = .ok (fr (wF (0, 1) fs ws)) S := by
  have h0 : Sk 2 (0, 1) := ⟨by decide, Bt.lit (by decide), Bt.lit (by decide)⟩
  obtain ⟨e4, e5, e6, h⟩ := w_sum (d0 := .tup (fs.map fr)) (d1 := .tup (ws.map fr)) (S := S) fs ws (0, 1) 2 .un .un .un h0 hf hw hk
  obtain ⟨s1, s2⟩ := sF_ok fs ws (0, 1) 2 h0 hf hw
  obtain ⟨r1, r2⟩ := wF_ok fs ws (0, 1) 2 fk0 hf hw
  have e : cutF (sF (0, 1) fs ws).1 (sF (0, 1) fs ws).2 = wF (0, 1) fs ws := by
    refine red_eq (cut_red s1.1) r1.1 ?_
    rw [cut_vl s1.1, r2, ← s2]
    rfl
  have z := e__law_fraction (t := (sF (0, 1) fs ws).1) s1.1 s1.2.2 hk S
  rw [e] at z
  refine fnR (e := [.val (.tup (fs.map fr)), .val (.tup (ws.map fr)), .val (.int (sF (0, 1) fs ws).1), .val (.int (sF (0, 1) fs ws).2), e4, e5, e6]) ?_
  refine (sq1 (m1 := ⟨[.val (.tup (fs.map fr)), .val (.tup (ws.map fr)), .val (.int 0), .val (.int 1), .un, .un, .un], S⟩) ?_).trans ((sq1 ((for1 (zzip1 ?_)).trans h)).trans (sq2 (rt1 ?_)))
  · simp only [padE, bodyFn, endR, padE, zseq, zret, zif, zpass, znext, zexpr, zasg, gset, gtup, gcons, gnil, zpar, setAll, sval, snew, snil, zsetB, zsetItem, celSet, zk, zvar, zop, toB, zand, zor, znot, zite, zchain, zcons, znil, ztup, zlstF, frz, celD, zcb, zcall, backR, zidx, zneg, zisi, zslice, onone, osome, zlenP, zbld, isBld, appendK, extendK, zlistF, listS, bind_ok, thenS_ok, ofO_some, List.getElem?_cons_zero, List.getElem?_cons_succ, List.set_cons_zero, List.set_cons_succ, List.length_cons, List.length_nil, List.map_cons, List.map_nil, List.replicate, List.cons_append, List.nil_append, List.append_nil, Nat.reduceAdd, Nat.reduceSub, Nat.zero_add, if_true, if_false, ite_true, ite_false, reduceIte, Bool.not_true, Bool.not_false, decide_true, decide_false, Bool.false_eq_true, isND, isNotND, addD, subD, cmpI, lenD, absD, intD, tupleD, Option.map_some, Option.bind_some, Option.bind, seqD, zseqI, idxD, isi_int_non, isi_int_bl, isi_int_int, isi_int_str, isi_int_tup, isi_int_lst, isi_int_dct, isi_bool_non, isi_bool_bl, isi_bool_int, isi_bool_str, isi_bool_tup, isi_bool_lst, isi_bool_dct, isi_tuple_non, isi_tuple_bl, isi_tuple_int, isi_tuple_str, isi_tuple_tup, isi_tuple_lst, isi_tuple_dct, isi_str_non, isi_str_bl, isi_str_int, isi_str_str, isi_str_tup, isi_str_lst, isi_str_dct, isi_list_non, isi_list_bl, isi_list_int, isi_list_str, isi_list_tup, isi_list_lst, isi_list_dct, isi_dict_non, isi_dict_bl, isi_dict_int, isi_dict_str, isi_dict_tup, isi_dict_lst, isi_dict_dct]
  · simp only [bodyFn, endR, padE, zseq, zret, zif, zpass, znext, zexpr, zasg, gset, gtup, gcons, gnil, zpar, setAll, sval, snew, snil, zsetB, zsetItem, celSet, zk, zvar, zop, toB, zand, zor, znot, zite, zchain, zcons, znil, ztup, zlstF, frz, celD, zcb, zcall, backR, zidx, zneg, zisi, zslice, onone, osome, zlenP, zbld, isBld, appendK, extendK, zlistF, listS, bind_ok, thenS_ok, ofO_some, List.getElem?_cons_zero, List.getElem?_cons_succ, List.set_cons_zero, List.set_cons_succ, List.length_cons, List.length_nil, List.map_cons, List.map_nil, List.replicate, List.cons_append, List.nil_append, List.append_nil, Nat.reduceAdd, Nat.reduceSub, Nat.zero_add, if_true, if_false, ite_true, ite_false, reduceIte, Bool.not_true, Bool.not_false, decide_true, decide_false, Bool.false_eq_true, isND, isNotND, addD, subD, cmpI, lenD, absD, intD, tupleD, Option.map_some, Option.bind_some, Option.bind, seqD, zseqI, idxD, isi_int_non, isi_int_bl, isi_int_int, isi_int_str, isi_int_tup, isi_int_lst, isi_int_dct, isi_bool_non, isi_bool_bl, isi_bool_int, isi_bool_str, isi_bool_tup, isi_bool_lst, isi_bool_dct, isi_tuple_non, isi_tuple_bl, isi_tuple_int, isi_tuple_str, isi_tuple_tup, isi_tuple_lst, isi_tuple_dct, isi_str_non, isi_str_bl, isi_str_int, isi_str_str, isi_str_tup, isi_str_lst, isi_str_dct, isi_list_non, isi_list_bl, isi_list_int, isi_list_str, isi_list_tup, isi_list_lst, isi_list_dct, isi_dict_non, isi_dict_bl, isi_dict_int, isi_dict_str, isi_dict_tup, isi_dict_lst, isi_dict_dct]
  · simp only [bodyFn, endR, padE, zseq, zret, zif, zpass, znext, zexpr, zasg, gset, gtup, gcons, gnil, zpar, setAll, sval, snew, snil, zsetB, zsetItem, celSet, zk, zvar, zop, toB, zand, zor, znot, zite, zchain, zcons, znil, ztup, zlstF, frz, celD, zcb, zcall, backR, zidx, zneg, zisi, zslice, onone, osome, zlenP, zbld, isBld, appendK, extendK, zlistF, listS, bind_ok, thenS_ok, ofO_some, List.getElem?_cons_zero, List.getElem?_cons_succ, List.set_cons_zero, List.set_cons_succ, List.length_cons, List.length_nil, List.map_cons, List.map_nil, List.replicate, List.cons_append, List.nil_append, List.append_nil, Nat.reduceAdd, Nat.reduceSub, Nat.zero_add, if_true, if_false, ite_true, ite_false, reduceIte, Bool.not_true, Bool.not_false, decide_true, decide_false, Bool.false_eq_true, isND, isNotND, addD, subD, cmpI, lenD, absD, intD, tupleD, Option.map_some, Option.bind_some, Option.bind, seqD, zseqI, idxD, isi_int_non, isi_int_bl, isi_int_int, isi_int_str, isi_int_tup, isi_int_lst, isi_int_dct, isi_bool_non, isi_bool_bl, isi_bool_int, isi_bool_str, isi_bool_tup, isi_bool_lst, isi_bool_dct, isi_tuple_non, isi_tuple_bl, isi_tuple_int, isi_tuple_str, isi_tuple_tup, isi_tuple_lst, isi_tuple_dct, isi_str_non, isi_str_bl, isi_str_int, isi_str_str, isi_str_tup, isi_str_lst, isi_str_dct, isi_list_non, isi_list_bl, isi_list_int, isi_list_str, isi_list_tup, isi_list_lst, isi_list_dct, isi_dict_non, isi_dict_bl, isi_dict_int, isi_dict_str, isi_dict_tup, isi_dict_lst, isi_dict_dct, z]
end Z

set_option Elab.async false
set_option linter.all false
set_option maxRecDepth 100000
set_option maxHeartbeats 2000000
namespace Z
open PySem PySem.Spec PyProof.Rows L2 RZ
theorem eqF (p q : Int × Int) : eqD (fr p) (fr q) = some (.bl (decide (p = q))) ∧ neD (fr p) (fr q) = some (.bl (!decide (p = q))) := by
  have h := okI (d := fr p) (e := fr q) rfl rfl (fun x => nofun)
  have e : eqb (fr p) (fr q) = decide (p = q) := by
    obtain ⟨a, b⟩ := p
    obtain ⟨c, d⟩ := q
    simp only [eqb, eqbL]
    by_cases h1 : a = c <;> by_cases h2 : b = d <;> simp [h1, h2]
  rw [e] at h
  exact h
theorem neF {p q : Int × Int} (h : p = q) : neD (fr p) (fr q) = some (.bl false) := by
  rw [(eqF p q).2, decide_eq_true h]
  rfl
theorem eqT {p q : Int × Int} (h : p = q) : eqD (fr p) (fr q) = some (.bl true) := by
  rw [(eqF p q).1, decide_eq_true h]
theorem repr_fr {p : Int × Int} {k : Nat} (h : Fk k p) (hk : k ≤ 1900) : ∃ x, reprD [fr p] = some (.str x) := by
  refine ⟨(PyData.tuple [.int p.1, .int p.2]).shown, ?_⟩
  have e : toP (fr p) = some (.tuple [.int p.1, .int p.2]) := rfl
  have l1 : p.1.natAbs.log2 < 1920 := (h.2.1.mono (show k ≤ 1919 by omega)).lt (by decide) |> fun z => by omega
  have l2 : p.2.natAbs.log2 < 1920 := (h.2.2.mono (show k ≤ 1919 by omega)).lt (by decide) |> fun z => by omega
  have t1 := int_text_length_le (k := 1920) (by decide) l1
  have t2 := int_text_length_le (k := 1920) (by decide) l2
  have s : shOk (.tuple [.int p.1, .int p.2]) = true := by
    have a1 : (PyData.tuple [.int p.1, .int p.2]).showable = true := by simp [PyData.showable, PyData.showableAll, l1, l2]
    have a2 : (PyData.tuple [.int p.1, .int p.2]).depth < 60 := by simp [PyData.depth, PyData.depthAll]
    have a3 : (PyData.tuple [.int p.1, .int p.2]).hasDict = false := by simp [PyData.hasDict, PyData.hasDictAll]
    have a4 : (PyData.tuple [.int p.1, .int p.2]).shown.length ≤ sizeLine := by
      simp only [PyData.shown, PyData.shownAll]
      refine Nat.le_trans (tupleText_len_le _) ?_
      simp only [List.map_cons, List.map_nil, List.sum_cons, List.sum_nil, List.length_cons, List.length_nil]
      have q1 : (PySem.Str.ofString (toString p.1)).length ≤ 1921 := by rw [PySem.ofString_length]; exact t1
      have q2 : (PySem.Str.ofString (toString p.2)).length ≤ 1921 := by rw [PySem.ofString_length]; exact t2
      have q3 : sizeLine = 16777216 := by decide
      omega
    unfold shOk
    rw [a1, a3, decide_eq_true a2, decide_eq_true a4]
    rfl
  unfold reprD
  simp only [e, s, if_true]
theorem neS (x : Str) : neD (.str x) (.str x) = some (.bl false) := by
  simp [neD]
def pick (fs : List (Int × Int)) (ix : List Nat) : List (Int × Int) := ix.map fun i => fs.getD i (0, 1)
theorem w_pick1 {fs : List (Int × Int)} {e0 e1 e2 e3 e4 e5 e6 e7 e8 e9 e11 e12 : Sl} {S : List (List D)} (hz : e1 = .val (.tup (fs.map fr))) : ∀ (ix : List Nat) (acc : List D), (∀ i ∈ ix, i < fs.length) →
    compL (gset 10) yes (zidx (zvar 1) (zvar 10)) [10] (ix.map fun i => D.int (i : Nat)) acc ⟨[e0, e1, e2, e3, e4, e5, e6, e7, e8, e9, .un, e11, e12], S⟩ = .ok (acc ++ (pick fs ix).map fr) ⟨[e0, e1, e2, e3, e4, e5, e6, e7, e8, e9, .un, e11, e12], S⟩
  | [], acc, _ => by simp [compL, pick]
  | i :: ix, acc, h => by
    have ih := w_pick1 (e0 := e0) (e1 := e1) (e2 := e2) (e3 := e3) (e4 := e4) (e5 := e5) (e6 := e6) (e7 := e7) (e8 := e8) (e9 := e9) (e11 := e11) (e12 := e12) (S := S) hz ix (acc ++ [fr (fs.getD i (0, 1))]) fun x hx => h x (List.mem_cons_of_mem _ hx)
    have hi := h i (List.mem_cons_self ..)
    have ha : atI (fs.map fr) ((i : Nat) : Int) = some (fr (fs.getD i (0, 1))) := atI_nat (by rw [List.getElem?_map, List.getElem?_eq_getElem hi, List.getD_eq_getElem?_getD, List.getElem?_eq_getElem hi]; rfl)
    subst hz
    simp only [List.map_cons, compL, bodyFn, endR, padE, zseq, zret, zif, zpass, znext, zexpr, zasg, gset, gtup, gcons, gnil, zpar, setAll, sval, snew, snil, zsetB, zsetItem, celSet, zk, zvar, zop, toB, zand, zor, znot, zite, zchain, zcons, znil, ztup, zlstF, frz, celD, zcb, zcall, backR, zidx, zneg, zisi, zslice, onone, osome, zlenP, zbld, isBld, appendK, extendK, zlistF, listS, bind_ok, thenS_ok, ofO_some, List.getElem?_cons_zero, List.getElem?_cons_succ, List.set_cons_zero, List.set_cons_succ, List.length_cons, List.length_nil, List.map_cons, List.map_nil, List.replicate, List.cons_append, List.nil_append, List.append_nil, Nat.reduceAdd, Nat.reduceSub, Nat.zero_add, if_true, if_false, ite_true, ite_false, reduceIte, Bool.not_true, Bool.not_false, decide_true, decide_false, Bool.false_eq_true, isND, isNotND, addD, subD, cmpI, lenD, absD, intD, tupleD, Option.map_some, Option.bind_some, Option.bind, seqD, zseqI, idxD, isi_int_non, isi_int_bl, isi_int_int, isi_int_str, isi_int_tup, isi_int_lst, isi_int_dct, isi_bool_non, isi_bool_bl, isi_bool_int, isi_bool_str, isi_bool_tup, isi_bool_lst, isi_bool_dct, isi_tuple_non, isi_tuple_bl, isi_tuple_int, isi_tuple_str, isi_tuple_tup, isi_tuple_lst, isi_tuple_dct, isi_str_non, isi_str_bl, isi_str_int, isi_str_str, isi_str_tup, isi_str_lst, isi_str_dct, isi_list_non, isi_list_bl, isi_list_int, isi_list_str, isi_list_tup, isi_list_lst, isi_list_dct, isi_dict_non, isi_dict_bl, isi_dict_int, isi_dict_str, isi_dict_tup, isi_dict_lst, isi_dict_dct, yes, ha, hide, hideE]
    rw [ih]
    simp [pick]
theorem w_pick2 {fs : List (Int × Int)} {e0 e1 e2 e3 e4 e5 e6 e7 e8 e9 e11 e12 : Sl} {S : List (List D)} (hz : e2 = .val (.tup (fs.map fr))) : ∀ (ix : List Nat) (acc : List D), (∀ i ∈ ix, i < fs.length) →
    compL (gset 10) yes (zidx (zvar 2) (zvar 10)) [10] (ix.map fun i => D.int (i : Nat)) acc ⟨[e0, e1, e2, e3, e4, e5, e6, e7, e8, e9, .un, e11, e12], S⟩ = .ok (acc ++ (pick fs ix).map fr) ⟨[e0, e1, e2, e3, e4, e5, e6, e7, e8, e9, .un, e11, e12], S⟩
  | [], acc, _ => by simp [compL, pick]
  | i :: ix, acc, h => by
    have ih := w_pick2 (e0 := e0) (e1 := e1) (e2 := e2) (e3 := e3) (e4 := e4) (e5 := e5) (e6 := e6) (e7 := e7) (e8 := e8) (e9 := e9) (e11 := e11) (e12 := e12) (S := S) hz ix (acc ++ [fr (fs.getD i (0, 1))]) fun x hx => h x (List.mem_cons_of_mem _ hx)
    have hi := h i (List.mem_cons_self ..)
    have ha : atI (fs.map fr) ((i : Nat) : Int) = some (fr (fs.getD i (0, 1))) := atI_nat (by rw [List.getElem?_map, List.getElem?_eq_getElem hi, List.getD_eq_getElem?_getD, List.getElem?_eq_getElem hi]; rfl)
    subst hz
    simp only [List.map_cons, compL, bodyFn, endR, padE, zseq, zret, zif, zpass, znext, zexpr, zasg, gset, gtup, gcons, gnil, zpar, setAll, sval, snew, snil, zsetB, zsetItem, celSet, zk, zvar, zop, toB, zand, zor, znot, zite, zchain, zcons, znil, ztup, zlstF, frz, celD, zcb, zcall, backR, zidx, zneg, zisi, zslice, onone, osome, zlenP, zbld, isBld, appendK, extendK, zlistF, listS, bind_ok, thenS_ok, ofO_some, List.getElem?_cons_zero, List.getElem?_cons_succ, List.set_cons_zero, List.set_cons_succ, List.length_cons, List.length_nil, List.map_cons, List.map_nil, List.replicate, List.cons_append, List.nil_append, List.append_nil, Nat.reduceAdd, Nat.reduceSub, Nat.zero_add, if_true, if_false, ite_true, ite_false, reduceIte, Bool.not_true, Bool.not_false, decide_true, decide_false, Bool.false_eq_true, isND, isNotND, addD, subD, cmpI, lenD, absD, intD, tupleD, Option.map_some, Option.bind_some, Option.bind, seqD, zseqI, idxD, isi_int_non, isi_int_bl, isi_int_int, isi_int_str, isi_int_tup, isi_int_lst, isi_int_dct, isi_bool_non, isi_bool_bl, isi_bool_int, isi_bool_str, isi_bool_tup, isi_bool_lst, isi_bool_dct, isi_tuple_non, isi_tuple_bl, isi_tuple_int, isi_tuple_str, isi_tuple_tup, isi_tuple_lst, isi_tuple_dct, isi_str_non, isi_str_bl, isi_str_int, isi_str_str, isi_str_tup, isi_str_lst, isi_str_dct, isi_list_non, isi_list_bl, isi_list_int, isi_list_str, isi_list_tup, isi_list_lst, isi_list_dct, isi_dict_non, isi_dict_bl, isi_dict_int, isi_dict_str, isi_dict_tup, isi_dict_lst, isi_dict_dct, yes, ha, hide, hideE]
    rw [ih]
    simp [pick]
theorem pick_ok {fs : List (Int × Int)} {ix : List Nat} {c : Nat} (h : ∀ f ∈ fs, Fk c f) (hi : ∀ i ∈ ix, i < fs.length) : ∀ f ∈ pick fs ix, Fk c f := fun f hf => by
  obtain ⟨i, h1, h2⟩ := List.mem_map.mp hf
  have hl := hi i h1
  rw [List.getD_eq_getElem?_getD, List.getElem?_eq_getElem hl] at h2
  rw [← h2]
  exact h _ (List.getElem_mem hl)
def tsum (fs ws : List (Int × Int)) (ix : List Nat) : Rat := match ix with
  | [] => 0
  | i :: ix => vl (fs.getD i (0, 1)) * vl (ws.getD i (0, 1)) + tsum fs ws ix
theorem pick_sum (fs ws : List (Int × Int)) : ∀ ix, wsum (pick fs ix) (pick ws ix) = tsum fs ws ix
  | [] => rfl
  | i :: ix => by
    show vl (fs.getD i (0, 1)) * vl (ws.getD i (0, 1)) + wsum (pick fs ix) (pick ws ix) = _
    rw [pick_sum fs ws ix]
    rfl
theorem tsum_perm {fs ws : List (Int × Int)} {ix iy : List Nat} (h : ix.Perm iy) : tsum fs ws ix = tsum fs ws iy := by
  induction h with
  | nil => rfl
  | cons x _ ih => simp only [tsum, ih]
  | swap x y l => simp only [tsum]; grind
  | trans _ _ i1 i2 => exact i1.trans i2
theorem tsum_shift (f w : Int × Int) (fs ws : List (Int × Int)) : ∀ ix : List Nat, tsum (f :: fs) (w :: ws) (ix.map Nat.succ) = tsum fs ws ix
  | [] => rfl
  | i :: ix => by
    simp only [List.map_cons, tsum, tsum_shift f w fs ws ix, List.getD_cons_succ]
theorem tsum_range : ∀ (fs ws : List (Int × Int)), fs.length = ws.length → tsum fs ws (List.range fs.length) = wsum fs ws
  | [], [], _ => rfl
  | f :: fs, w :: ws, h => by
    rw [List.length_cons, List.range_succ_eq_map]
    show vl f * vl w + tsum (f :: fs) (w :: ws) ((List.range fs.length).map Nat.succ) = _
    rw [tsum_shift, tsum_range fs ws (by simpa using h)]
    rfl
/-- numbers drawn without putting back -/
theorem perm_ints {found rest : List D} {n : Nat} (h : (found ++ rest).Perm ((List.range n).map fun i => D.int (i : Nat))) (hl : found.length = n) : ∃ ix : List Nat, found = ix.map (fun i => D.int (i : Nat)) ∧ ix.Perm (List.range n) := by
  have hr : rest = [] := by
    have := h.length_eq
    simp at this
    exact List.eq_nil_of_length_eq_zero (by omega)
  subst hr
  rw [List.append_nil] at h
  refine ⟨found.map fun d => match d with
    | .int i => i.toNat
    | _ => 0, ?_, ?_⟩
  · rw [List.map_map]
    refine (List.map_id' found).symm.trans ?_
    refine List.map_congr_left fun d hd => ?_
    obtain ⟨i, _, hi⟩ := List.mem_map.mp (h.mem_iff.mp hd)
    rw [← hi]
    simp
  · refine (h.map _).trans ?_
    rw [List.map_map]
    refine .of_eq ?_
    refine Eq.trans ?_ (List.map_id' _)
    refine List.map_congr_left fun i _ => ?_
    simp
theorem gcd_two {a b : Int} (h : Int.gcd a b = 1) : Int.gcd (2 * a) b = Int.gcd 2 b := by
  unfold Int.gcd at *
  rw [Int.natAbs_mul]
  exact Nat.Coprime.gcd_mul_right_cancel _ h
def twF (w : Int × Int) : Int × Int := cutF (2 * w.1) w.2
theorem tw_eq {w : Int × Int} (h : Red w) : twF w = ((2 * w.1).fdiv (Int.gcd 2 w.2 : Int), w.2.fdiv (Int.gcd 2 w.2 : Int)) := by
  have e : sgn (2 * w.1) w.2 = (Int.gcd 2 w.2 : Int) := by
    unfold sgn
    rw [if_pos h.1, gcd_two h.2]
  unfold twF cutF
  rw [e]
theorem tw_ok {w : Int × Int} {c : Nat} (h : Fk c w) : Fk (c + 2) (twF w) ∧ vl (twF w) = 2 * vl w := by
  have n := h.1.ne
  have b := (show Bt 2 2 from Bt.lit (by decide)).mul h.2.1
  refine ⟨⟨cut_red n, cut_bt n (b.mono (by omega)) (h.2.2.mono (by omega))⟩, ?_⟩
  rw [twF, cut_vl n]
  have q := castn n
  unfold vl
  push_cast
  grind
end Z

set_option Elab.async false
set_option linter.all false
set_option maxRecDepth 100000
set_option maxHeartbeats 4000000
namespace Z
open PySem PySem.Spec PyProof.Rows L2 RZ
section
variable {e0 e1 e2 e3 e4 e5 e6 e7 e8 e9 e10 e11 e12 : Sl} {S : List (List D)} {c : Nat}
theorem w_twice : ∀ (ws : List (Int × Int)) (acc : List D), (∀ w ∈ ws, Fk 20 w) →
    compL (gset 11) yes (ztup (zcons (zop fdivD (zop mulZ (zk (.int 2)) (zidx (zvar 11) (zk (.int 0)))) (zcall f__law_gcd [] (zcons (frz (zlstF (zcons (zk (.int 2)) (zcons (zidx (zvar 11) (zk (.int 1))) znil)))) znil))) (zcons (zop fdivD (zidx (zvar 11) (zk (.int 1))) (zcall f__law_gcd [] (zcons (frz (zlstF (zcons (zk (.int 2)) (zcons (zidx (zvar 11) (zk (.int 1))) znil)))) znil))) znil))) [11] (ws.map fr) acc ⟨[e0, e1, e2, e3, e4, e5, e6, e7, e8, e9, e10, .un, e12], S⟩
      = .ok (acc ++ (ws.map twF).map fr) ⟨[e0, e1, e2, e3, e4, e5, e6, e7, e8, e9, e10, .un, e12], S⟩
  | [], acc, _ => by simp [compL]
  | w :: ws, acc, h => by
    have ih := w_twice ws (acc ++ [fr (twF w)]) fun x hx => h x (List.mem_cons_of_mem _ hx)
    have hw := h w (List.mem_cons_self ..)
    have n := hw.1.ne
    have g1 : (Int.gcd 2 w.2 : Int) ≠ 0 := by have := gcd_pos (t := 2) n; omega
    have g2 := gcd_bt (t := 2) n hw.2.2
    rw [tw_eq hw.1] at ih
    simp only [List.map_cons, compL, bodyFn, endR, padE, zseq, zret, zif, zpass, znext, zexpr, zasg, gset, gtup, gcons, gnil, zpar, setAll, sval, snew, snil, zsetB, zsetItem, celSet, zk, zvar, zop, toB, zand, zor, znot, zite, zchain, zcons, znil, ztup, zlstF, frz, celD, zcb, zcall, backR, zidx, zneg, zisi, zslice, onone, osome, zlenP, zbld, isBld, appendK, extendK, zlistF, listS, bind_ok, thenS_ok, ofO_some, List.getElem?_cons_zero, List.getElem?_cons_succ, List.set_cons_zero, List.set_cons_succ, List.length_cons, List.length_nil, List.map_cons, List.map_nil, List.replicate, List.cons_append, List.nil_append, List.append_nil, Nat.reduceAdd, Nat.reduceSub, Nat.zero_add, if_true, if_false, ite_true, ite_false, reduceIte, Bool.not_true, Bool.not_false, decide_true, decide_false, Bool.false_eq_true, isND, isNotND, addD, subD, cmpI, lenD, absD, intD, tupleD, Option.map_some, Option.bind_some, Option.bind, seqD, zseqI, idxD, isi_int_non, isi_int_bl, isi_int_int, isi_int_str, isi_int_tup, isi_int_lst, isi_int_dct, isi_bool_non, isi_bool_bl, isi_bool_int, isi_bool_str, isi_bool_tup, isi_bool_lst, isi_bool_dct, isi_tuple_non, isi_tuple_bl, isi_tuple_int, isi_tuple_str, isi_tuple_tup, isi_tuple_lst, isi_tuple_dct, isi_str_non, isi_str_bl, isi_str_int, isi_str_str, isi_str_tup, isi_str_lst, isi_str_dct, isi_list_non, isi_list_bl, isi_list_int, isi_list_str, isi_list_tup, isi_list_lst, isi_list_dct, isi_dict_non, isi_dict_bl, isi_dict_int, isi_dict_str, isi_dict_tup, isi_dict_lst, isi_dict_dct, yes, at0, at1, small2, e__law_gcd2, mulB (show Bt 2 2 from Bt.lit (by decide)) hw.2.1 (by decide), fdivB g1 g2 (by decide), hide, hideE]
    rw [ih, tw_eq hw.1]
    simp
theorem w_parts : ∀ (fs ws : List (Int × Int)) (acc : List D), (∀ f ∈ fs, Fk 20 f) → (∀ w ∈ ws, Fk 20 w) →
    compL (gtup 2 (gcons (gset 12) (gcons (gset 9) gnil))) yes (zcall f_fraction [] (zcons (zop mulZ (zidx (zvar 12) (zk (.int 0))) (zidx (zvar 9) (zk (.int 0)))) (zcons (zop mulZ (zidx (zvar 12) (zk (.int 1))) (zidx (zvar 9) (zk (.int 1)))) znil))) [12, 9] (List.zipWith fw fs ws) acc ⟨[e0, e1, e2, e3, e4, e5, e6, e7, e8, .un, e10, e11, .un], S⟩
      = .ok (acc ++ (List.zipWith tmF fs ws).map fr) ⟨[e0, e1, e2, e3, e4, e5, e6, e7, e8, .un, e10, e11, .un], S⟩
  | [], _, acc, _, _ => by simp [compL]
  | _ :: _, [], acc, _, _ => by simp [compL]
  | f :: fs, w :: ws, acc, h1, h2 => by
    have ih := w_parts fs ws (acc ++ [fr (tmF f w)]) (fun x hx => h1 x (List.mem_cons_of_mem _ hx)) (fun x hx => h2 x (List.mem_cons_of_mem _ hx))
    have hf := h1 f (List.mem_cons_self ..)
    have hw := h2 w (List.mem_cons_self ..)
    have n3 : f.2 * w.2 ≠ 0 := Int.mul_ne_zero hf.1.ne hw.1.ne
    have z := e_fraction (t := f.1 * w.1) n3 (hf.2.2.mul hw.2.2) (by decide) S
    simp only [List.zipWith_cons_cons, List.map_cons, compL, bodyFn, endR, padE, zseq, zret, zif, zpass, znext, zexpr, zasg, gset, gtup, gcons, gnil, zpar, setAll, sval, snew, snil, zsetB, zsetItem, celSet, zk, zvar, zop, toB, zand, zor, znot, zite, zchain, zcons, znil, ztup, zlstF, frz, celD, zcb, zcall, backR, zidx, zneg, zisi, zslice, onone, osome, zlenP, zbld, isBld, appendK, extendK, zlistF, listS, bind_ok, thenS_ok, ofO_some, List.getElem?_cons_zero, List.getElem?_cons_succ, List.set_cons_zero, List.set_cons_succ, List.length_cons, List.length_nil, List.map_cons, List.map_nil, List.replicate, List.cons_append, List.nil_append, List.append_nil, Nat.reduceAdd, Nat.reduceSub, Nat.zero_add, if_true, if_false, ite_true, ite_false, reduceIte, Bool.not_true, Bool.not_false, decide_true, decide_false, Bool.false_eq_true, isND, isNotND, addD, subD, cmpI, lenD, absD, intD, tupleD, Option.map_some, Option.bind_some, Option.bind, seqD, zseqI, idxD, isi_int_non, isi_int_bl, isi_int_int, isi_int_str, isi_int_tup, isi_int_lst, isi_int_dct, isi_bool_non, isi_bool_bl, isi_bool_int, isi_bool_str, isi_bool_tup, isi_bool_lst, isi_bool_dct, isi_tuple_non, isi_tuple_bl, isi_tuple_int, isi_tuple_str, isi_tuple_tup, isi_tuple_lst, isi_tuple_dct, isi_str_non, isi_str_bl, isi_str_int, isi_str_str, isi_str_tup, isi_str_lst, isi_str_dct, isi_list_non, isi_list_bl, isi_list_int, isi_list_str, isi_list_tup, isi_list_lst, isi_list_dct, isi_dict_non, isi_dict_bl, isi_dict_int, isi_dict_str, isi_dict_tup, isi_dict_lst, isi_dict_dct, yes, at0, at1, mulB hf.2.1 hw.2.1 (by decide), mulB hf.2.2 hw.2.2 (by decide), z, hide, hideE]
    rw [show cutF (f.1 * w.1) (f.2 * w.2) = tmF f w from rfl, ih]
    simp
def ngF (p : Int × Int) : Int × Int := (-p.1, p.2)
theorem w_negs : ∀ (fs : List (Int × Int)) (acc : List D),
    compL (gset 12) yes (ztup (zcons (zneg (zidx (zvar 12) (zk (.int 0)))) (zcons (zidx (zvar 12) (zk (.int 1))) znil))) [12] (fs.map fr) acc ⟨[e0, e1, e2, e3, e4, e5, e6, e7, e8, e9, e10, e11, .un], S⟩
      = .ok (acc ++ (fs.map ngF).map fr) ⟨[e0, e1, e2, e3, e4, e5, e6, e7, e8, e9, e10, e11, .un], S⟩
  | [], acc => by simp [compL]
  | f :: fs, acc => by
    have ih := w_negs fs (acc ++ [fr (ngF f)])
    simp only [List.map_cons, compL, bodyFn, endR, padE, zseq, zret, zif, zpass, znext, zexpr, zasg, gset, gtup, gcons, gnil, zpar, setAll, sval, snew, snil, zsetB, zsetItem, celSet, zk, zvar, zop, toB, zand, zor, znot, zite, zchain, zcons, znil, ztup, zlstF, frz, celD, zcb, zcall, backR, zidx, zneg, zisi, zslice, onone, osome, zlenP, zbld, isBld, appendK, extendK, zlistF, listS, bind_ok, thenS_ok, ofO_some, List.getElem?_cons_zero, List.getElem?_cons_succ, List.set_cons_zero, List.set_cons_succ, List.length_cons, List.length_nil, List.map_cons, List.map_nil, List.replicate, List.cons_append, List.nil_append, List.append_nil, Nat.reduceAdd, Nat.reduceSub, Nat.zero_add, if_true, if_false, ite_true, ite_false, reduceIte, Bool.not_true, Bool.not_false, decide_true, decide_false, Bool.false_eq_true, isND, isNotND, addD, subD, cmpI, lenD, absD, intD, tupleD, Option.map_some, Option.bind_some, Option.bind, seqD, zseqI, idxD, isi_int_non, isi_int_bl, isi_int_int, isi_int_str, isi_int_tup, isi_int_lst, isi_int_dct, isi_bool_non, isi_bool_bl, isi_bool_int, isi_bool_str, isi_bool_tup, isi_bool_lst, isi_bool_dct, isi_tuple_non, isi_tuple_bl, isi_tuple_int, isi_tuple_str, isi_tuple_tup, isi_tuple_lst, isi_tuple_dct, isi_str_non, isi_str_bl, isi_str_int, isi_str_str, isi_str_tup, isi_str_lst, isi_str_dct, isi_list_non, isi_list_bl, isi_list_int, isi_list_str, isi_list_tup, isi_list_lst, isi_list_dct, isi_dict_non, isi_dict_bl, isi_dict_int, isi_dict_str, isi_dict_tup, isi_dict_lst, isi_dict_dct, yes, at0, at1, small2, hide, hideE]
    rw [show D.tup [D.int (-f.1), D.int f.2] = fr (ngF f) from rfl, ih]
    simp
end
theorem ng_ok {p : Int × Int} {c : Nat} (h : Fk c p) : Fk c (ngF p) ∧ vl (ngF p) = - vl p := by
  refine ⟨⟨⟨h.1.1, ?_⟩, h.2.1.neg, h.2.2⟩, ?_⟩
  · show Int.gcd (-p.1) p.2 = 1
    rw [Int.neg_gcd]
    exact h.1.2
  · have q := castn h.1.ne
    unfold vl ngF
    push_cast
    grind
/-! worths -/
theorem wsum_ones : ∀ (fs : List (Int × Int)), wsum fs (ones fs.length) = (fs.map vl).sum
  | [] => rfl
  | f :: fs => by
    show vl f * vl (1, 1) + wsum fs (ones fs.length) = _
    rw [wsum_ones fs, vl1, Rat.mul_one]
    simp
theorem sum_app : ∀ (a b : List Rat), (a ++ b).sum = a.sum + b.sum
  | [], b => by simp [Rat.zero_add]
  | x :: a, b => by
    simp only [List.cons_append, List.sum_cons, sum_app a b]
    grind
theorem sum_neg {c : Nat} : ∀ (fs : List (Int × Int)), (∀ f ∈ fs, Fk c f) → ((fs.map ngF).map vl).sum = -(fs.map vl).sum
  | [], _ => by simp
  | f :: fs, h => by
    simp only [List.map_cons, List.sum_cons, sum_neg fs (fun x hx => h x (List.mem_cons_of_mem _ hx)), (ng_ok (h f (List.mem_cons_self ..))).2]
    grind
theorem sum_tm {c : Nat} : ∀ (fs ws : List (Int × Int)), (∀ f ∈ fs, Fk c f) → (∀ w ∈ ws, Fk c w) → ((List.zipWith tmF fs ws).map vl).sum = wsum fs ws
  | [], _, _, _ => by simp [wsum]
  | _ :: _, [], _, _ => by simp [wsum]
  | f :: fs, w :: ws, h1, h2 => by
    simp only [List.zipWith_cons_cons, List.map_cons, List.sum_cons, sum_tm fs ws (fun x hx => h1 x (List.mem_cons_of_mem _ hx)) (fun x hx => h2 x (List.mem_cons_of_mem _ hx)), (tm_ok (h1 f (List.mem_cons_self ..)) (h2 w (List.mem_cons_self ..))).2]
    rfl
theorem wsum_tw {c : Nat} : ∀ (fs ws : List (Int × Int)), (∀ w ∈ ws, Fk c w) → wsum fs (ws.map twF) = 2 * wsum fs ws
  | [], _, _ => by simp [wsum]
  | _ :: _, [], _ => by simp [wsum]
  | f :: fs, w :: ws, h => by
    show vl f * vl (twF w) + wsum fs (ws.map twF) = 2 * (vl f * vl w + wsum fs ws)
    rw [wsum_tw fs ws (fun x hx => h x (List.mem_cons_of_mem _ hx)), (tw_ok (h w (List.mem_cons_self ..))).2]
    grind
/-- the sum of fractions -/
def tot (fs : List (Int × Int)) : Int × Int := wF (0, 1) fs (ones fs.length)
theorem tot_ok {c : Nat} {fs : List (Int × Int)} (hc : 2 ≤ c) (h : ∀ f ∈ fs, Fk c f) : Fk (2 + fs.length * (2 * c + 1)) (tot fs) ∧ vl (tot fs) = (fs.map vl).sum := by
  obtain ⟨h1, h2⟩ := wF_ok fs (ones fs.length) (0, 1) 2 fk0 h (ones_ok hc)
  refine ⟨h1, ?_⟩
  rw [tot, h2, vl0, wsum_ones, Rat.zero_add]
end Z

set_option Elab.async false
set_option linter.all false
set_option maxRecDepth 100000
set_option maxHeartbeats 4000000
namespace Z
open PySem PySem.Spec PyProof.Rows L2 RZ
theorem e__law_one_right {S : List (List D)} {p k : Nat} {fs ws : List (Int × Int)} (h : PotAt S p k) (hk : k + 100 < 1000000) (hf : ∀ f ∈ fs, Fk 20 f) (hw : ∀ w ∈ ws, Fk 20 w) (hl : fs.length = ws.length) (hn : fs.length ≤ 25) :
    ∃ S', f__law_one_right [.cel p, .tup (fs.map fr), .tup (ws.map fr)] S = .ok (.bl true) S' ∧ PotAt S' p (k + fs.length) := by
  have n1 : fs.length * 41 ≤ 1025 := by omega
  have n2 : 2 + fs.length * (2 * 20 + 1) < 9000 := by omega
  obtain ⟨t1, t2⟩ := wF_ok fs ws (0, 1) 2 fk0 hf hw
  rw [vl0, Rat.zero_add] at t2
  have t1 : Fk 1027 (wF (0, 1) fs ws) := t1.mono (by omega)
  have o1 := ones_ok (n := fs.length) (show 2 ≤ 20 by decide)
  obtain ⟨u1, u2⟩ := tot_ok (show 2 ≤ 20 by decide) hf
  have u1 : Fk 1027 (tot fs) := u1.mono (by omega)
  obtain ⟨x1, x2⟩ := repr_fr t1 (by decide)
  obtain ⟨y1, y2⟩ := repr_fr u1 (by decide)
  have z1 := fun S => e_total1 hf hw hl (by omega) n2 S
  have z2 := fun S => e__law_sum hf hw n2 S
  have z3 := fun S => e_total0 (show 2 ≤ 20 by decide) hf (by omega) n2 S
  have z4 := fun S => e__law_sum hf o1 n2 S
  have z5 := fun S => e_total1 hf o1 (by simp) (by omega) n2 S
  have z6 := fun S => e__law_ones fs.length (by omega) S
  have et : wF (0, 1) fs (ones fs.length) = tot fs := rfl
  -- the order
  obtain ⟨found, rest, S1, s1, s2, s3, s4⟩ := e__law_some (pool := (List.range fs.length).map fun i => D.int (i : Nat)) (many := fs.length) h (by simp) (by simp; omega) (by omega)
  obtain ⟨ix, rfl, px⟩ := perm_ints s3 s4
  have hix : ∀ i ∈ ix, i < fs.length := fun i hi => List.mem_range.mp (px.mem_iff.mp hi)
  have lix : ix.length = fs.length := by simpa using s4
  have pf := pick_ok hf hix
  have pw := pick_ok hw (fun i hi => by rw [← hl]; exact hix i hi)
  have lf : (pick fs ix).length = fs.length := by simp [pick, lix]
  have lw : (pick ws ix).length = fs.length := by simp [pick, lix]
  have z7 := e_total1 pf pw (by omega) (by omega) (by rw [lf]; exact n2) S1
  have e7 : wF (0, 1) (pick fs ix) (pick ws ix) = wF (0, 1) fs ws := by
    obtain ⟨q1, q2⟩ := wF_ok (pick fs ix) (pick ws ix) (0, 1) 2 fk0 pf pw
    refine red_eq q1.1 t1.1 ?_
    rw [q2, t2, vl0, Rat.zero_add, pick_sum, tsum_perm px, tsum_range fs ws hl]
  -- twice
  have hw2 : ∀ w ∈ ws.map twF, Fk 22 w := fun w h => by
    obtain ⟨v, h1, h2⟩ := List.mem_map.mp h
    rw [← h2]
    exact (tw_ok (hw v h1)).1
  have hf2 : ∀ f ∈ fs, Fk 22 f := fun f h => (hf f h).mono (by decide)
  have z8 := e_total1 hf2 hw2 (by simpa using hl) (by omega) (by omega) S1
  have hd : ∀ f ∈ [wF (0, 1) fs ws, wF (0, 1) fs ws], Fk 1027 f := fun f h => by
    simp at h
    rw [h]
    exact t1
  have z9 := e_total0 (show 2 ≤ 1027 by decide) hd (by simp) (by simp) S1
  have e9 : wF (0, 1) fs (ws.map twF) = tot [wF (0, 1) fs ws, wF (0, 1) fs ws] := by
    obtain ⟨q1, q2⟩ := wF_ok fs (ws.map twF) (0, 1) 2 fk0 hf2 hw2
    obtain ⟨q3, q4⟩ := tot_ok (show 2 ≤ 1027 by decide) hd
    refine red_eq q1.1 q3.1 ?_
    rw [q2, q4, vl0, Rat.zero_add, wsum_tw fs ws hw]
    simp only [List.map_cons, List.map_nil, List.sum_cons, List.sum_nil, t2]
    grind
  have z10 := e_total1 hw hf hl.symm (by omega) (by omega) S1
  have e10 : wF (0, 1) ws fs = wF (0, 1) fs ws := by
    obtain ⟨q1, q2⟩ := wF_ok ws fs (0, 1) 2 fk0 hw hf
    refine red_eq q1.1 t1.1 ?_
    rw [q2, t2, vl0, Rat.zero_add, wsum_comm]
  -- parts
  have hp : ∀ f ∈ List.zipWith tmF fs ws, Fk 40 f := by
    have : ∀ (fs ws : List (Int × Int)), (∀ f ∈ fs, Fk 20 f) → (∀ w ∈ ws, Fk 20 w) → ∀ f ∈ List.zipWith tmF fs ws, Fk 40 f := by
      intro fs
      induction fs with
      | nil => intro ws _ _ f h; simp at h
      | cons a fs ih =>
        intro ws h1 h2 f h
        cases ws with
        | nil => simp at h
        | cons b ws =>
          rw [List.zipWith_cons_cons] at h
          rcases List.mem_cons.mp h with e | h
          · rw [e]
            exact (tm_ok (h1 a (List.mem_cons_self ..)) (h2 b (List.mem_cons_self ..))).1
          · exact ih ws (fun x hx => h1 x (List.mem_cons_of_mem _ hx)) (fun x hx => h2 x (List.mem_cons_of_mem _ hx)) f h
    exact this fs ws hf hw
  have lp : (List.zipWith tmF fs ws).length = fs.length := by simp [hl]
  have z11 := e_total0 (show 2 ≤ 40 by decide) hp (by omega) (by rw [lp]; omega) S1
  have e11 : tot (List.zipWith tmF fs ws) = wF (0, 1) fs ws := by
    obtain ⟨q3, q4⟩ := tot_ok (show 2 ≤ 40 by decide) hp
    refine red_eq q3.1 t1.1 ?_
    rw [q4, t2, sum_tm fs ws hf hw]
  -- some and their negatives
  have hg : ∀ f ∈ fs ++ fs.map ngF, Fk 20 f := fun f h => by
    rcases List.mem_append.mp h with h | h
    · exact hf f h
    · obtain ⟨v, h1, h2⟩ := List.mem_map.mp h
      rw [← h2]
      exact (ng_ok (hf v h1)).1
  have lg : (fs ++ fs.map ngF).length = fs.length + fs.length := by simp
  have z12 := e_total0 (show 2 ≤ 20 by decide) hg (by omega) (by rw [lg]; omega) S1
  have e12 : tot (fs ++ fs.map ngF) = (0, 1) := by
    obtain ⟨q3, q4⟩ := tot_ok (show 2 ≤ 20 by decide) hg
    refine red_eq q3.1 fk0.1 ?_
    rw [q4, vl0, List.map_append, sum_app, sum_neg fs hf]
    grind
  refine ⟨S1, ?_, s2⟩
  refine fnR (e := [.val (.cel p), .val (.tup (fs.map fr)), .val (.tup (ws.map fr)), .val (.lst (ix.map fun i => D.int (i : Nat))), .val (.tup ((ws.map twF).map fr)), .val (.tup ((List.zipWith tmF fs ws).map fr)), .val (fr (wF (0, 1) fs ws)), .val (.tup ((ones fs.length).map fr)), .val (.lst ((pick fs ix).map fr)), .val (.lst ((pick ws ix).map fr)), .un, .un, .un]) ?_
  refine (sq1 (m1 := ⟨[.val (.cel p), .val (.tup (fs.map fr)), .val (.tup (ws.map fr)), .un, .un, .un, .val (fr (wF (0, 1) fs ws)), .val (.tup ((ones fs.length).map fr)), .un, .un, .un, .un, .un], S⟩) ?sta).trans ?_
  case sta => simp only [padE, bodyFn, endR, padE, zseq, zret, zif, zpass, znext, zexpr, zasg, gset, gtup, gcons, gnil, zpar, setAll, sval, snew, snil, zsetB, zsetItem, celSet, zk, zvar, zop, toB, zand, zor, znot, zite, zchain, zcons, znil, ztup, zlstF, frz, celD, zcb, zcall, backR, zidx, zneg, zisi, zslice, onone, osome, zlenP, zbld, isBld, appendK, extendK, zlistF, listS, bind_ok, thenS_ok, ofO_some, List.getElem?_cons_zero, List.getElem?_cons_succ, List.set_cons_zero, List.set_cons_succ, List.length_cons, List.length_nil, List.map_cons, List.map_nil, List.replicate, List.cons_append, List.nil_append, List.append_nil, Nat.reduceAdd, Nat.reduceSub, Nat.zero_add, if_true, if_false, ite_true, ite_false, reduceIte, Bool.not_true, Bool.not_false, decide_true, decide_false, Bool.false_eq_true, isND, isNotND, addD, subD, cmpI, lenD, absD, intD, tupleD, Option.map_some, Option.bind_some, Option.bind, seqD, zseqI, idxD, isi_int_non, isi_int_bl, isi_int_int, isi_int_str, isi_int_tup, isi_int_lst, isi_int_dct, isi_bool_non, isi_bool_bl, isi_bool_int, isi_bool_str, isi_bool_tup, isi_bool_lst, isi_bool_dct, isi_tuple_non, isi_tuple_bl, isi_tuple_int, isi_tuple_str, isi_tuple_tup, isi_tuple_lst, isi_tuple_dct, isi_str_non, isi_str_bl, isi_str_int, isi_str_str, isi_str_tup, isi_str_lst, isi_str_dct, isi_list_non, isi_list_bl, isi_list_int, isi_list_str, isi_list_tup, isi_list_lst, isi_list_dct, isi_dict_non, isi_dict_bl, isi_dict_int, isi_dict_str, isi_dict_tup, isi_dict_lst, isi_dict_dct, z1, z6, List.length_map]
  refine (sq1 (m1 := ⟨[.val (.cel p), .val (.tup (fs.map fr)), .val (.tup (ws.map fr)), .un, .un, .un, .val (fr (wF (0, 1) fs ws)), .val (.tup ((ones fs.length).map fr)), .un, .un, .un, .un, .un], S⟩) ?stb).trans ?_
  case stb => simp only [bodyFn, endR, padE, zseq, zret, zif, zpass, znext, zexpr, zasg, gset, gtup, gcons, gnil, zpar, setAll, sval, snew, snil, zsetB, zsetItem, celSet, zk, zvar, zop, toB, zand, zor, znot, zite, zchain, zcons, znil, ztup, zlstF, frz, celD, zcb, zcall, backR, zidx, zneg, zisi, zslice, onone, osome, zlenP, zbld, isBld, appendK, extendK, zlistF, listS, bind_ok, thenS_ok, ofO_some, List.getElem?_cons_zero, List.getElem?_cons_succ, List.set_cons_zero, List.set_cons_succ, List.length_cons, List.length_nil, List.map_cons, List.map_nil, List.replicate, List.cons_append, List.nil_append, List.append_nil, Nat.reduceAdd, Nat.reduceSub, Nat.zero_add, if_true, if_false, ite_true, ite_false, reduceIte, Bool.not_true, Bool.not_false, decide_true, decide_false, Bool.false_eq_true, isND, isNotND, addD, subD, cmpI, lenD, absD, intD, tupleD, Option.map_some, Option.bind_some, Option.bind, seqD, zseqI, idxD, isi_int_non, isi_int_bl, isi_int_int, isi_int_str, isi_int_tup, isi_int_lst, isi_int_dct, isi_bool_non, isi_bool_bl, isi_bool_int, isi_bool_str, isi_bool_tup, isi_bool_lst, isi_bool_dct, isi_tuple_non, isi_tuple_bl, isi_tuple_int, isi_tuple_str, isi_tuple_tup, isi_tuple_lst, isi_tuple_dct, isi_str_non, isi_str_bl, isi_str_int, isi_str_str, isi_str_tup, isi_str_lst, isi_str_dct, isi_list_non, isi_list_bl, isi_list_int, isi_list_str, isi_list_tup, isi_list_lst, isi_list_dct, isi_dict_non, isi_dict_bl, isi_dict_int, isi_dict_str, isi_dict_tup, isi_dict_lst, isi_dict_dct, z2, z3, z4, et, x2, y2, neS]
  refine (sq1 (m1 := ⟨[.val (.cel p), .val (.tup (fs.map fr)), .val (.tup (ws.map fr)), .val (.lst (ix.map fun i => D.int (i : Nat))), .un, .un, .val (fr (wF (0, 1) fs ws)), .val (.tup ((ones fs.length).map fr)), .un, .un, .un, .un, .un], S1⟩) ?stc).trans ?_
  case stc =>
    have a1 : zlistRg (zcb lenD (zcons (zvar 1) znil)) ⟨[.val (.cel p), .val (.tup (fs.map fr)), .val (.tup (ws.map fr)), .un, .un, .un, .val (fr (wF (0, 1) fs ws)), .val (.tup ((ones fs.length).map fr)), .un, .un, .un, .un, .un], S⟩ = .ok ((List.range fs.length).map fun i => D.int (i : Nat)) ⟨[.val (.cel p), .val (.tup (fs.map fr)), .val (.tup (ws.map fr)), .un, .un, .un, .val (fr (wF (0, 1) fs ws)), .val (.tup ((ones fs.length).map fr)), .un, .un, .un, .un, .un], S⟩ := zlistRg1 (by simp only [bodyFn, endR, padE, zseq, zret, zif, zpass, znext, zexpr, zasg, gset, gtup, gcons, gnil, zpar, setAll, sval, snew, snil, zsetB, zsetItem, celSet, zk, zvar, zop, toB, zand, zor, znot, zite, zchain, zcons, znil, ztup, zlstF, frz, celD, zcb, zcall, backR, zidx, zneg, zisi, zslice, onone, osome, zlenP, zbld, isBld, appendK, extendK, zlistF, listS, bind_ok, thenS_ok, ofO_some, List.getElem?_cons_zero, List.getElem?_cons_succ, List.set_cons_zero, List.set_cons_succ, List.length_cons, List.length_nil, List.map_cons, List.map_nil, List.replicate, List.cons_append, List.nil_append, List.append_nil, Nat.reduceAdd, Nat.reduceSub, Nat.zero_add, if_true, if_false, ite_true, ite_false, reduceIte, Bool.not_true, Bool.not_false, decide_true, decide_false, Bool.false_eq_true, isND, isNotND, addD, subD, cmpI, lenD, absD, intD, tupleD, Option.map_some, Option.bind_some, Option.bind, seqD, zseqI, idxD, isi_int_non, isi_int_bl, isi_int_int, isi_int_str, isi_int_tup, isi_int_lst, isi_int_dct, isi_bool_non, isi_bool_bl, isi_bool_int, isi_bool_str, isi_bool_tup, isi_bool_lst, isi_bool_dct, isi_tuple_non, isi_tuple_bl, isi_tuple_int, isi_tuple_str, isi_tuple_tup, isi_tuple_lst, isi_tuple_dct, isi_str_non, isi_str_bl, isi_str_int, isi_str_str, isi_str_tup, isi_str_lst, isi_str_dct, isi_list_non, isi_list_bl, isi_list_int, isi_list_str, isi_list_tup, isi_list_lst, isi_list_dct, isi_dict_non, isi_dict_bl, isi_dict_int, isi_dict_str, isi_dict_tup, isi_dict_lst, isi_dict_dct, List.length_map]) (by omega)
    refine as1 (m1 := ⟨[.val (.cel p), .val (.tup (fs.map fr)), .val (.tup (ws.map fr)), .un, .un, .un, .val (fr (wF (0, 1) fs ws)), .val (.tup ((ones fs.length).map fr)), .un, .un, .un, .un, .un], S1⟩) (ca1 (m1 := ⟨[.val (.cel p), .val (.tup (fs.map fr)), .val (.tup (ws.map fr)), .un, .un, .un, .val (fr (wF (0, 1) fs ws)), .val (.tup ((ones fs.length).map fr)), .un, .un, .un, .un, .un], S⟩) (ds := [.cel p, .lst ((List.range fs.length).map fun i => D.int (i : Nat)), .int fs.length]) ?_ s1) rfl
    simp only [frz, a1, bodyFn, endR, padE, zseq, zret, zif, zpass, znext, zexpr, zasg, gset, gtup, gcons, gnil, zpar, setAll, sval, snew, snil, zsetB, zsetItem, celSet, zk, zvar, zop, toB, zand, zor, znot, zite, zchain, zcons, znil, ztup, zlstF, frz, celD, zcb, zcall, backR, zidx, zneg, zisi, zslice, onone, osome, zlenP, zbld, isBld, appendK, extendK, zlistF, listS, bind_ok, thenS_ok, ofO_some, List.getElem?_cons_zero, List.getElem?_cons_succ, List.set_cons_zero, List.set_cons_succ, List.length_cons, List.length_nil, List.map_cons, List.map_nil, List.replicate, List.cons_append, List.nil_append, List.append_nil, Nat.reduceAdd, Nat.reduceSub, Nat.zero_add, if_true, if_false, ite_true, ite_false, reduceIte, Bool.not_true, Bool.not_false, decide_true, decide_false, Bool.false_eq_true, isND, isNotND, addD, subD, cmpI, lenD, absD, intD, tupleD, Option.map_some, Option.bind_some, Option.bind, seqD, zseqI, idxD, isi_int_non, isi_int_bl, isi_int_int, isi_int_str, isi_int_tup, isi_int_lst, isi_int_dct, isi_bool_non, isi_bool_bl, isi_bool_int, isi_bool_str, isi_bool_tup, isi_bool_lst, isi_bool_dct, isi_tuple_non, isi_tuple_bl, isi_tuple_int, isi_tuple_str, isi_tuple_tup, isi_tuple_lst, isi_tuple_dct, isi_str_non, isi_str_bl, isi_str_int, isi_str_str, isi_str_tup, isi_str_lst, isi_str_dct, isi_list_non, isi_list_bl, isi_list_int, isi_list_str, isi_list_tup, isi_list_lst, isi_list_dct, isi_dict_non, isi_dict_bl, isi_dict_int, isi_dict_str, isi_dict_tup, isi_dict_lst, isi_dict_dct, List.length_map]
  refine (sq1 (m1 := ⟨[.val (.cel p), .val (.tup (fs.map fr)), .val (.tup (ws.map fr)), .val (.lst (ix.map fun i => D.int (i : Nat))), .un, .un, .val (fr (wF (0, 1) fs ws)), .val (.tup ((ones fs.length).map fr)), .val (.lst ((pick fs ix).map fr)), .val (.lst ((pick ws ix).map fr)), .un, .un, .un], S1⟩) ?std).trans ?_
  case std =>
    have c1 := frz1 (zcompF1 (src := zseqI (zvar 3)) (m := ⟨[.val (.cel p), .val (.tup (fs.map fr)), .val (.tup (ws.map fr)), .val (.lst (ix.map fun i => D.int (i : Nat))), .un, .un, .val (fr (wF (0, 1) fs ws)), .val (.tup ((ones fs.length).map fr)), .un, .un, .un, .un, .un], S1⟩) (by simp only [bodyFn, endR, padE, zseq, zret, zif, zpass, znext, zexpr, zasg, gset, gtup, gcons, gnil, zpar, setAll, sval, snew, snil, zsetB, zsetItem, celSet, zk, zvar, zop, toB, zand, zor, znot, zite, zchain, zcons, znil, ztup, zlstF, frz, celD, zcb, zcall, backR, zidx, zneg, zisi, zslice, onone, osome, zlenP, zbld, isBld, appendK, extendK, zlistF, listS, bind_ok, thenS_ok, ofO_some, List.getElem?_cons_zero, List.getElem?_cons_succ, List.set_cons_zero, List.set_cons_succ, List.length_cons, List.length_nil, List.map_cons, List.map_nil, List.replicate, List.cons_append, List.nil_append, List.append_nil, Nat.reduceAdd, Nat.reduceSub, Nat.zero_add, if_true, if_false, ite_true, ite_false, reduceIte, Bool.not_true, Bool.not_false, decide_true, decide_false, Bool.false_eq_true, isND, isNotND, addD, subD, cmpI, lenD, absD, intD, tupleD, Option.map_some, Option.bind_some, Option.bind, seqD, zseqI, idxD, isi_int_non, isi_int_bl, isi_int_int, isi_int_str, isi_int_tup, isi_int_lst, isi_int_dct, isi_bool_non, isi_bool_bl, isi_bool_int, isi_bool_str, isi_bool_tup, isi_bool_lst, isi_bool_dct, isi_tuple_non, isi_tuple_bl, isi_tuple_int, isi_tuple_str, isi_tuple_tup, isi_tuple_lst, isi_tuple_dct, isi_str_non, isi_str_bl, isi_str_int, isi_str_str, isi_str_tup, isi_str_lst, isi_str_dct, isi_list_non, isi_list_bl, isi_list_int, isi_list_str, isi_list_tup, isi_list_lst, isi_list_dct, isi_dict_non, isi_dict_bl, isi_dict_int, isi_dict_str, isi_dict_tup, isi_dict_lst, isi_dict_dct]; rfl) (by rw [List.length_map, lix]; omega) rfl (w_pick1 rfl ix [] hix))
    have c2 := frz1 (zcompF1 (src := zseqI (zvar 3)) (m := ⟨[.val (.cel p), .val (.tup (fs.map fr)), .val (.tup (ws.map fr)), .val (.lst (ix.map fun i => D.int (i : Nat))), .un, .un, .val (fr (wF (0, 1) fs ws)), .val (.tup ((ones fs.length).map fr)), .un, .un, .un, .un, .un], S1⟩) (by simp only [bodyFn, endR, padE, zseq, zret, zif, zpass, znext, zexpr, zasg, gset, gtup, gcons, gnil, zpar, setAll, sval, snew, snil, zsetB, zsetItem, celSet, zk, zvar, zop, toB, zand, zor, znot, zite, zchain, zcons, znil, ztup, zlstF, frz, celD, zcb, zcall, backR, zidx, zneg, zisi, zslice, onone, osome, zlenP, zbld, isBld, appendK, extendK, zlistF, listS, bind_ok, thenS_ok, ofO_some, List.getElem?_cons_zero, List.getElem?_cons_succ, List.set_cons_zero, List.set_cons_succ, List.length_cons, List.length_nil, List.map_cons, List.map_nil, List.replicate, List.cons_append, List.nil_append, List.append_nil, Nat.reduceAdd, Nat.reduceSub, Nat.zero_add, if_true, if_false, ite_true, ite_false, reduceIte, Bool.not_true, Bool.not_false, decide_true, decide_false, Bool.false_eq_true, isND, isNotND, addD, subD, cmpI, lenD, absD, intD, tupleD, Option.map_some, Option.bind_some, Option.bind, seqD, zseqI, idxD, isi_int_non, isi_int_bl, isi_int_int, isi_int_str, isi_int_tup, isi_int_lst, isi_int_dct, isi_bool_non, isi_bool_bl, isi_bool_int, isi_bool_str, isi_bool_tup, isi_bool_lst, isi_bool_dct, isi_tuple_non, isi_tuple_bl, isi_tuple_int, isi_tuple_str, isi_tuple_tup, isi_tuple_lst, isi_tuple_dct, isi_str_non, isi_str_bl, isi_str_int, isi_str_str, isi_str_tup, isi_str_lst, isi_str_dct, isi_list_non, isi_list_bl, isi_list_int, isi_list_str, isi_list_tup, isi_list_lst, isi_list_dct, isi_dict_non, isi_dict_bl, isi_dict_int, isi_dict_str, isi_dict_tup, isi_dict_lst, isi_dict_dct]; rfl) (by rw [List.length_map, lix]; omega) rfl (w_pick2 rfl ix [] (fun i hi => by rw [← hl]; exact hix i hi)))
    simp only [backE, List.getD_cons_succ, List.getD_cons_zero, List.set_cons_succ, List.set_cons_zero, List.nil_append] at c1 c2
    simp only [zpar, sval, snil, c1, bind_ok, c2, thenS_ok, List.length_cons, List.length_nil, if_true, setAll, List.set_cons_succ, List.set_cons_zero]
  refine (sq1 (m1 := ⟨[.val (.cel p), .val (.tup (fs.map fr)), .val (.tup (ws.map fr)), .val (.lst (ix.map fun i => D.int (i : Nat))), .un, .un, .val (fr (wF (0, 1) fs ws)), .val (.tup ((ones fs.length).map fr)), .val (.lst ((pick fs ix).map fr)), .val (.lst ((pick ws ix).map fr)), .un, .un, .un], S1⟩) ?ste).trans ?_
  case ste => simp only [bodyFn, endR, padE, zseq, zret, zif, zpass, znext, zexpr, zasg, gset, gtup, gcons, gnil, zpar, setAll, sval, snew, snil, zsetB, zsetItem, celSet, zk, zvar, zop, toB, zand, zor, znot, zite, zchain, zcons, znil, ztup, zlstF, frz, celD, zcb, zcall, backR, zidx, zneg, zisi, zslice, onone, osome, zlenP, zbld, isBld, appendK, extendK, zlistF, listS, bind_ok, thenS_ok, ofO_some, List.getElem?_cons_zero, List.getElem?_cons_succ, List.set_cons_zero, List.set_cons_succ, List.length_cons, List.length_nil, List.map_cons, List.map_nil, List.replicate, List.cons_append, List.nil_append, List.append_nil, Nat.reduceAdd, Nat.reduceSub, Nat.zero_add, if_true, if_false, ite_true, ite_false, reduceIte, Bool.not_true, Bool.not_false, decide_true, decide_false, Bool.false_eq_true, isND, isNotND, addD, subD, cmpI, lenD, absD, intD, tupleD, Option.map_some, Option.bind_some, Option.bind, seqD, zseqI, idxD, isi_int_non, isi_int_bl, isi_int_int, isi_int_str, isi_int_tup, isi_int_lst, isi_int_dct, isi_bool_non, isi_bool_bl, isi_bool_int, isi_bool_str, isi_bool_tup, isi_bool_lst, isi_bool_dct, isi_tuple_non, isi_tuple_bl, isi_tuple_int, isi_tuple_str, isi_tuple_tup, isi_tuple_lst, isi_tuple_dct, isi_str_non, isi_str_bl, isi_str_int, isi_str_str, isi_str_tup, isi_str_lst, isi_str_dct, isi_list_non, isi_list_bl, isi_list_int, isi_list_str, isi_list_tup, isi_list_lst, isi_list_dct, isi_dict_non, isi_dict_bl, isi_dict_int, isi_dict_str, isi_dict_tup, isi_dict_lst, isi_dict_dct, z7, e7, neF rfl, z5, z3, et]
  refine (sq1 (m1 := ⟨[.val (.cel p), .val (.tup (fs.map fr)), .val (.tup (ws.map fr)), .val (.lst (ix.map fun i => D.int (i : Nat))), .val (.tup ((ws.map twF).map fr)), .un, .val (fr (wF (0, 1) fs ws)), .val (.tup ((ones fs.length).map fr)), .val (.lst ((pick fs ix).map fr)), .val (.lst ((pick ws ix).map fr)), .un, .un, .un], S1⟩) ?stf).trans ?_
  case stf =>
    have c1 := frz1 (zcompF1 (src := zseqI (zvar 2)) (m := ⟨[.val (.cel p), .val (.tup (fs.map fr)), .val (.tup (ws.map fr)), .val (.lst (ix.map fun i => D.int (i : Nat))), .un, .un, .val (fr (wF (0, 1) fs ws)), .val (.tup ((ones fs.length).map fr)), .val (.lst ((pick fs ix).map fr)), .val (.lst ((pick ws ix).map fr)), .un, .un, .un], S1⟩) (by simp only [bodyFn, endR, padE, zseq, zret, zif, zpass, znext, zexpr, zasg, gset, gtup, gcons, gnil, zpar, setAll, sval, snew, snil, zsetB, zsetItem, celSet, zk, zvar, zop, toB, zand, zor, znot, zite, zchain, zcons, znil, ztup, zlstF, frz, celD, zcb, zcall, backR, zidx, zneg, zisi, zslice, onone, osome, zlenP, zbld, isBld, appendK, extendK, zlistF, listS, bind_ok, thenS_ok, ofO_some, List.getElem?_cons_zero, List.getElem?_cons_succ, List.set_cons_zero, List.set_cons_succ, List.length_cons, List.length_nil, List.map_cons, List.map_nil, List.replicate, List.cons_append, List.nil_append, List.append_nil, Nat.reduceAdd, Nat.reduceSub, Nat.zero_add, if_true, if_false, ite_true, ite_false, reduceIte, Bool.not_true, Bool.not_false, decide_true, decide_false, Bool.false_eq_true, isND, isNotND, addD, subD, cmpI, lenD, absD, intD, tupleD, Option.map_some, Option.bind_some, Option.bind, seqD, zseqI, idxD, isi_int_non, isi_int_bl, isi_int_int, isi_int_str, isi_int_tup, isi_int_lst, isi_int_dct, isi_bool_non, isi_bool_bl, isi_bool_int, isi_bool_str, isi_bool_tup, isi_bool_lst, isi_bool_dct, isi_tuple_non, isi_tuple_bl, isi_tuple_int, isi_tuple_str, isi_tuple_tup, isi_tuple_lst, isi_tuple_dct, isi_str_non, isi_str_bl, isi_str_int, isi_str_str, isi_str_tup, isi_str_lst, isi_str_dct, isi_list_non, isi_list_bl, isi_list_int, isi_list_str, isi_list_tup, isi_list_lst, isi_list_dct, isi_dict_non, isi_dict_bl, isi_dict_int, isi_dict_str, isi_dict_tup, isi_dict_lst, isi_dict_dct]; rfl) (by rw [List.length_map]; omega) rfl (w_twice ws [] hw))
    simp only [backE, List.getD_cons_succ, List.getD_cons_zero, List.set_cons_succ, List.set_cons_zero, List.nil_append] at c1
    exact as1 (cb1 (cons1 c1 rfl) rfl) rfl
  refine (sq1 (m1 := ⟨[.val (.cel p), .val (.tup (fs.map fr)), .val (.tup (ws.map fr)), .val (.lst (ix.map fun i => D.int (i : Nat))), .val (.tup ((ws.map twF).map fr)), .un, .val (fr (wF (0, 1) fs ws)), .val (.tup ((ones fs.length).map fr)), .val (.lst ((pick fs ix).map fr)), .val (.lst ((pick ws ix).map fr)), .un, .un, .un], S1⟩) ?stg).trans ?_
  case stg =>
    have z9' : f_total [.tup [fr (wF (0, 1) fs ws), fr (wF (0, 1) fs ws)], .non] S1 = .ok (fr (tot [wF (0, 1) fs ws, wF (0, 1) fs ws])) S1 := z9
    simp only [bodyFn, endR, padE, zseq, zret, zif, zpass, znext, zexpr, zasg, gset, gtup, gcons, gnil, zpar, setAll, sval, snew, snil, zsetB, zsetItem, celSet, zk, zvar, zop, toB, zand, zor, znot, zite, zchain, zcons, znil, ztup, zlstF, frz, celD, zcb, zcall, backR, zidx, zneg, zisi, zslice, onone, osome, zlenP, zbld, isBld, appendK, extendK, zlistF, listS, bind_ok, thenS_ok, ofO_some, List.getElem?_cons_zero, List.getElem?_cons_succ, List.set_cons_zero, List.set_cons_succ, List.length_cons, List.length_nil, List.map_cons, List.map_nil, List.replicate, List.cons_append, List.nil_append, List.append_nil, Nat.reduceAdd, Nat.reduceSub, Nat.zero_add, if_true, if_false, ite_true, ite_false, reduceIte, Bool.not_true, Bool.not_false, decide_true, decide_false, Bool.false_eq_true, isND, isNotND, addD, subD, cmpI, lenD, absD, intD, tupleD, Option.map_some, Option.bind_some, Option.bind, seqD, zseqI, idxD, isi_int_non, isi_int_bl, isi_int_int, isi_int_str, isi_int_tup, isi_int_lst, isi_int_dct, isi_bool_non, isi_bool_bl, isi_bool_int, isi_bool_str, isi_bool_tup, isi_bool_lst, isi_bool_dct, isi_tuple_non, isi_tuple_bl, isi_tuple_int, isi_tuple_str, isi_tuple_tup, isi_tuple_lst, isi_tuple_dct, isi_str_non, isi_str_bl, isi_str_int, isi_str_str, isi_str_tup, isi_str_lst, isi_str_dct, isi_list_non, isi_list_bl, isi_list_int, isi_list_str, isi_list_tup, isi_list_lst, isi_list_dct, isi_dict_non, isi_dict_bl, isi_dict_int, isi_dict_str, isi_dict_tup, isi_dict_lst, isi_dict_dct, z8, e9, small2, z9', z10, e10, neF rfl]
  refine (sq1 (m1 := ⟨[.val (.cel p), .val (.tup (fs.map fr)), .val (.tup (ws.map fr)), .val (.lst (ix.map fun i => D.int (i : Nat))), .val (.tup ((ws.map twF).map fr)), .val (.tup ((List.zipWith tmF fs ws).map fr)), .val (fr (wF (0, 1) fs ws)), .val (.tup ((ones fs.length).map fr)), .val (.lst ((pick fs ix).map fr)), .val (.lst ((pick ws ix).map fr)), .un, .un, .un], S1⟩) ?sth).trans ?_
  case sth =>
    have c1 := frz1 (zcompF1 (src := zzip (zcons (zvar 1) (zcons (zvar 2) znil))) (m := ⟨[.val (.cel p), .val (.tup (fs.map fr)), .val (.tup (ws.map fr)), .val (.lst (ix.map fun i => D.int (i : Nat))), .val (.tup ((ws.map twF).map fr)), .un, .val (fr (wF (0, 1) fs ws)), .val (.tup ((ones fs.length).map fr)), .val (.lst ((pick fs ix).map fr)), .val (.lst ((pick ws ix).map fr)), .un, .un, .un], S1⟩) (zzip1 (fs := fs) (ws := ws) (by simp only [bodyFn, endR, padE, zseq, zret, zif, zpass, znext, zexpr, zasg, gset, gtup, gcons, gnil, zpar, setAll, sval, snew, snil, zsetB, zsetItem, celSet, zk, zvar, zop, toB, zand, zor, znot, zite, zchain, zcons, znil, ztup, zlstF, frz, celD, zcb, zcall, backR, zidx, zneg, zisi, zslice, onone, osome, zlenP, zbld, isBld, appendK, extendK, zlistF, listS, bind_ok, thenS_ok, ofO_some, List.getElem?_cons_zero, List.getElem?_cons_succ, List.set_cons_zero, List.set_cons_succ, List.length_cons, List.length_nil, List.map_cons, List.map_nil, List.replicate, List.cons_append, List.nil_append, List.append_nil, Nat.reduceAdd, Nat.reduceSub, Nat.zero_add, if_true, if_false, ite_true, ite_false, reduceIte, Bool.not_true, Bool.not_false, decide_true, decide_false, Bool.false_eq_true, isND, isNotND, addD, subD, cmpI, lenD, absD, intD, tupleD, Option.map_some, Option.bind_some, Option.bind, seqD, zseqI, idxD, isi_int_non, isi_int_bl, isi_int_int, isi_int_str, isi_int_tup, isi_int_lst, isi_int_dct, isi_bool_non, isi_bool_bl, isi_bool_int, isi_bool_str, isi_bool_tup, isi_bool_lst, isi_bool_dct, isi_tuple_non, isi_tuple_bl, isi_tuple_int, isi_tuple_str, isi_tuple_tup, isi_tuple_lst, isi_tuple_dct, isi_str_non, isi_str_bl, isi_str_int, isi_str_str, isi_str_tup, isi_str_lst, isi_str_dct, isi_list_non, isi_list_bl, isi_list_int, isi_list_str, isi_list_tup, isi_list_lst, isi_list_dct, isi_dict_non, isi_dict_bl, isi_dict_int, isi_dict_str, isi_dict_tup, isi_dict_lst, isi_dict_dct]; rfl)) (by simp; omega) rfl (w_parts fs ws [] hf hw))
    simp only [backE, List.getD_cons_succ, List.getD_cons_zero, List.set_cons_succ, List.set_cons_zero, List.nil_append] at c1
    exact as1 (cb1 (cons1 c1 rfl) rfl) rfl
  refine sq2 (rt1 ?_)
  have c1 := frz1 (zcompF1 (src := zseqI (zvar 1)) (m := ⟨[.val (.cel p), .val (.tup (fs.map fr)), .val (.tup (ws.map fr)), .val (.lst (ix.map fun i => D.int (i : Nat))), .val (.tup ((ws.map twF).map fr)), .val (.tup ((List.zipWith tmF fs ws).map fr)), .val (fr (wF (0, 1) fs ws)), .val (.tup ((ones fs.length).map fr)), .val (.lst ((pick fs ix).map fr)), .val (.lst ((pick ws ix).map fr)), .un, .un, .un], S1⟩) (by simp only [bodyFn, endR, padE, zseq, zret, zif, zpass, znext, zexpr, zasg, gset, gtup, gcons, gnil, zpar, setAll, sval, snew, snil, zsetB, zsetItem, celSet, zk, zvar, zop, toB, zand, zor, znot, zite, zchain, zcons, znil, ztup, zlstF, frz, celD, zcb, zcall, backR, zidx, zneg, zisi, zslice, onone, osome, zlenP, zbld, isBld, appendK, extendK, zlistF, listS, bind_ok, thenS_ok, ofO_some, List.getElem?_cons_zero, List.getElem?_cons_succ, List.set_cons_zero, List.set_cons_succ, List.length_cons, List.length_nil, List.map_cons, List.map_nil, List.replicate, List.cons_append, List.nil_append, List.append_nil, Nat.reduceAdd, Nat.reduceSub, Nat.zero_add, if_true, if_false, ite_true, ite_false, reduceIte, Bool.not_true, Bool.not_false, decide_true, decide_false, Bool.false_eq_true, isND, isNotND, addD, subD, cmpI, lenD, absD, intD, tupleD, Option.map_some, Option.bind_some, Option.bind, seqD, zseqI, idxD, isi_int_non, isi_int_bl, isi_int_int, isi_int_str, isi_int_tup, isi_int_lst, isi_int_dct, isi_bool_non, isi_bool_bl, isi_bool_int, isi_bool_str, isi_bool_tup, isi_bool_lst, isi_bool_dct, isi_tuple_non, isi_tuple_bl, isi_tuple_int, isi_tuple_str, isi_tuple_tup, isi_tuple_lst, isi_tuple_dct, isi_str_non, isi_str_bl, isi_str_int, isi_str_str, isi_str_tup, isi_str_lst, isi_str_dct, isi_list_non, isi_list_bl, isi_list_int, isi_list_str, isi_list_tup, isi_list_lst, isi_list_dct, isi_dict_non, isi_dict_bl, isi_dict_int, isi_dict_str, isi_dict_tup, isi_dict_lst, isi_dict_dct]; rfl) (by rw [List.length_map]; omega) rfl (w_negs fs []))
  simp only [backE, List.getD_cons_succ, List.getD_cons_zero, List.set_cons_succ, List.set_cons_zero, List.nil_append] at c1
  have z11' : f_total [.tup ((List.zipWith tmF fs ws).map fr), .non] S1 = .ok (fr (tot (List.zipWith tmF fs ws))) S1 := z11
  have z12' : f_total [.tup ((fs ++ fs.map ngF).map fr), .non] S1 = .ok (fr (tot (fs ++ fs.map ngF))) S1 := z12
  rw [e11] at z11'
  rw [e12, List.map_append] at z12'
  have ta := cb1 (cons1 (fs := znil) c1 rfl) (show tupleD [.lst ((fs.map ngF).map fr)] = some (.tup ((fs.map ngF).map fr)) from rfl)
  have ad : addD (.tup (fs.map fr)) (.tup ((fs.map ngF).map fr)) = some (.tup (fs.map fr ++ (fs.map ngF).map fr)) := by
    have q : small ((fs.map fr).length + ((fs.map ngF).map fr).length) = true := small_of (by simp; omega)
    simp only [addD, q, if_true]
  have e0 : eqD (fr (0, 1)) (.tup [.int 0, .int 1]) = some (.bl true) := eqT (p := (0, 1)) (q := (0, 1)) rfl
  simp only [↓ta, ad, e0, zand, zop, zcall, zcons, zvar, List.getElem?_cons_zero, List.getElem?_cons_succ, bind_ok, znil, List.cons_append, List.nil_append, z11', backR, eqT rfl, ofO_some, z12', ztup, zk, List.length_cons, List.length_nil, Nat.zero_add, Nat.reduceAdd, small2, if_true]
end Z

set_option Elab.async false
set_option linter.all false
set_option maxRecDepth 100000
set_option maxHeartbeats 4000000
namespace Z
open PySem PySem.Spec PyProof.Rows L2 RZ
theorem e__law_drawn_fraction {S : List (List D)} {p k : Nat} (h : PotAt S p k) (hk : k + 10 < 1000000) : ∃ q S', f__law_drawn_fraction [.cel p] S = .ok (fr q) S' ∧ Fk 20 q ∧ PotAt S' p (k + 5) := by
  obtain ⟨d1, S1, a1, a2, a3⟩ := e__law_of (xs := [.int 3, .int 9, .int 9, .int 100, .int 100000]) h (by omega) (by simp) (by simp)
  obtain ⟨u1, rfl, b1, b2⟩ : ∃ u : Int, d1 = .int u ∧ 0 < u ∧ u ≤ 100000 := by
    simp at a2
    rcases a2 with e | e | e | e <;> subst e <;> exact ⟨_, rfl, by decide, by decide⟩
  obtain ⟨r1, S2, a4, c1, c2, a5⟩ := e__law_take (u := u1) a3 (by omega) b1 (Bt.of (by omega) (by omega))
  obtain ⟨d2, S3, a6, a7, a8⟩ := e__law_of (xs := [.int 1, .int 1, .int (-1)]) a5 (by omega) (by simp) (by simp)
  obtain ⟨u2, rfl, b3⟩ : ∃ u : Int, d2 = .int u ∧ (u = 1 ∨ u = -1) := by
    simp at a7
    rcases a7 with e | e <;> subst e <;> exact ⟨_, rfl, by decide⟩
  obtain ⟨d3, S4, a9, a10, a11⟩ := e__law_of (xs := [.int 1, .int 1, .int 4, .int 12, .int 999]) a8 (by omega) (by simp) (by simp)
  obtain ⟨u3, rfl, b4, b5⟩ : ∃ u : Int, d3 = .int u ∧ 0 < u ∧ u ≤ 999 := by
    simp at a10
    rcases a10 with e | e | e | e <;> subst e <;> exact ⟨_, rfl, by decide, by decide⟩
  obtain ⟨r2, S5, a12, c3, c4, a13⟩ := e__law_take (u := u3) a11 (by omega) b4 (Bt.of (by omega) (by omega))
  have t1 : Bt 17 r1 := Bt.of c1 (by omega)
  have t2 : Bt 1 u2 := by rcases b3 with e | e <;> rw [e] <;> exact Bt.lit (by decide)
  have t3 : Bt 10 (1 + r2) := Bt.of (by omega) (by omega)
  have n : 1 + r2 ≠ 0 := by omega
  have z := e__law_fraction (t := r1 * u2) n t3 (by decide) S5
  have e5 : powD (.int 10) (.int 5) = some (.int 100000) := powC (by decide)
  have b := cut_bt n ((t1.mul t2).mono (show 17 + 1 ≤ 20 by decide)) (t3.mono (show 10 ≤ 20 by decide))
  refine ⟨cutF (r1 * u2) (1 + r2), S5, ?_, ⟨cut_red n, b.1, b.2⟩, a13⟩
  simp only [f__law_drawn_fraction, g__law_drawn_fraction, bodyFn, endR, padE, zseq, zret, zif, zpass, znext, zexpr, zasg, gset, gtup, gcons, gnil, zpar, setAll, sval, snew, snil, zsetB, zsetItem, celSet, zk, zvar, zop, toB, zand, zor, znot, zite, zchain, zcons, znil, ztup, zlstF, frz, celD, zcb, zcall, backR, zidx, zneg, zisi, zslice, onone, osome, zlenP, zbld, isBld, appendK, extendK, zlistF, listS, bind_ok, thenS_ok, ofO_some, List.getElem?_cons_zero, List.getElem?_cons_succ, List.set_cons_zero, List.set_cons_succ, List.length_cons, List.length_nil, List.map_cons, List.map_nil, List.replicate, List.cons_append, List.nil_append, List.append_nil, Nat.reduceAdd, Nat.reduceSub, Nat.zero_add, if_true, if_false, ite_true, ite_false, reduceIte, Bool.not_true, Bool.not_false, decide_true, decide_false, Bool.false_eq_true, isND, isNotND, addD, subD, cmpI, lenD, absD, intD, tupleD, Option.map_some, Option.bind_some, Option.bind, seqD, zseqI, idxD, isi_int_non, isi_int_bl, isi_int_int, isi_int_str, isi_int_tup, isi_int_lst, isi_int_dct, isi_bool_non, isi_bool_bl, isi_bool_int, isi_bool_str, isi_bool_tup, isi_bool_lst, isi_bool_dct, isi_tuple_non, isi_tuple_bl, isi_tuple_int, isi_tuple_str, isi_tuple_tup, isi_tuple_lst, isi_tuple_dct, isi_str_non, isi_str_bl, isi_str_int, isi_str_str, isi_str_tup, isi_str_lst, isi_str_dct, isi_list_non, isi_list_bl, isi_list_int, isi_list_str, isi_list_tup, isi_list_lst, isi_list_dct, isi_dict_non, isi_dict_bl, isi_dict_int, isi_dict_str, isi_dict_tup, isi_dict_lst, isi_dict_dct, e5, small5, small3, a1, a4, a6, mulB t1 t2 (by decide), a9, a12, z]
section
variable {e1 e2 e3 e4 e5 : Sl}
theorem w_draw {p : Nat} : ∀ (ds acc : List D) (S : List (List D)) (k : Nat), PotAt S p k → k + 5 * ds.length + 10 < 1000000 →
    ∃ (qs : List (Int × Int)) (S' : List (List D)), compL (gset 6) yes (zcall f__law_drawn_fraction [] (zcons (zvar 0) znil)) [6] ds acc ⟨[.val (.cel p), e1, e2, e3, e4, e5, .un], S⟩ = .ok (acc ++ qs.map fr) ⟨[.val (.cel p), e1, e2, e3, e4, e5, .un], S'⟩
      ∧ qs.length = ds.length ∧ (∀ q ∈ qs, Fk 20 q) ∧ PotAt S' p (k + 5 * ds.length)
  | [], acc, S, k, h, _ => ⟨[], S, by simp [compL], rfl, fun q hq => (by simp at hq), h⟩
  | d :: ds, acc, S, k, h, hk => by
    rw [List.length_cons] at hk
    obtain ⟨q, S1, a1, a2, a3⟩ := e__law_drawn_fraction h (by omega)
    obtain ⟨qs, S2, b1, b2, b3, b4⟩ := w_draw ds (acc ++ [fr q]) S1 (k + 5) a3 (by omega)
    refine ⟨q :: qs, S2, ?_, by simp [b2], fun x hx => ?_, b4.mono (by rw [List.length_cons]; omega)⟩
    · simp only [compL, bodyFn, endR, padE, zseq, zret, zif, zpass, znext, zexpr, zasg, gset, gtup, gcons, gnil, zpar, setAll, sval, snew, snil, zsetB, zsetItem, celSet, zk, zvar, zop, toB, zand, zor, znot, zite, zchain, zcons, znil, ztup, zlstF, frz, celD, zcb, zcall, backR, zidx, zneg, zisi, zslice, onone, osome, zlenP, zbld, isBld, appendK, extendK, zlistF, listS, bind_ok, thenS_ok, ofO_some, List.getElem?_cons_zero, List.getElem?_cons_succ, List.set_cons_zero, List.set_cons_succ, List.length_cons, List.length_nil, List.map_cons, List.map_nil, List.replicate, List.cons_append, List.nil_append, List.append_nil, Nat.reduceAdd, Nat.reduceSub, Nat.zero_add, if_true, if_false, ite_true, ite_false, reduceIte, Bool.not_true, Bool.not_false, decide_true, decide_false, Bool.false_eq_true, isND, isNotND, addD, subD, cmpI, lenD, absD, intD, tupleD, Option.map_some, Option.bind_some, Option.bind, seqD, zseqI, idxD, isi_int_non, isi_int_bl, isi_int_int, isi_int_str, isi_int_tup, isi_int_lst, isi_int_dct, isi_bool_non, isi_bool_bl, isi_bool_int, isi_bool_str, isi_bool_tup, isi_bool_lst, isi_bool_dct, isi_tuple_non, isi_tuple_bl, isi_tuple_int, isi_tuple_str, isi_tuple_tup, isi_tuple_lst, isi_tuple_dct, isi_str_non, isi_str_bl, isi_str_int, isi_str_str, isi_str_tup, isi_str_lst, isi_str_dct, isi_list_non, isi_list_bl, isi_list_int, isi_list_str, isi_list_tup, isi_list_lst, isi_list_dct, isi_dict_non, isi_dict_bl, isi_dict_int, isi_dict_str, isi_dict_tup, isi_dict_lst, isi_dict_dct, yes, a1, hide, hideE]
      rw [b1]
      simp
    · rcases List.mem_cons.mp hx with e | hx
      · rw [e]; exact a2
      · exact b3 x hx
theorem w_weights {p : Nat} : ∀ (ds acc : List D) (S : List (List D)) (k : Nat), PotAt S p k → k + 2 * ds.length + 10 < 1000000 →
    ∃ (qs : List (Int × Int)) (S' : List (List D)), compL (gset 6) yes (zcall f__law_fraction [] (zcons (zop subD (zcall f__law_take [] (zcons (zvar 0) (zcons (zk (.int 19)) znil))) (zk (.int 9))) (zcons (zop addD (zk (.int 1)) (zcall f__law_take [] (zcons (zvar 0) (zcons (zk (.int 4)) znil)))) znil))) [6] ds acc ⟨[.val (.cel p), e1, e2, e3, e4, e5, .un], S⟩ = .ok (acc ++ qs.map fr) ⟨[.val (.cel p), e1, e2, e3, e4, e5, .un], S'⟩
      ∧ qs.length = ds.length ∧ (∀ q ∈ qs, Fk 20 q) ∧ PotAt S' p (k + 2 * ds.length)
  | [], acc, S, k, h, _ => ⟨[], S, by simp [compL], rfl, fun q hq => (by simp at hq), h⟩
  | d :: ds, acc, S, k, h, hk => by
    rw [List.length_cons] at hk
    obtain ⟨r1, S1, a1, c1, c2, a2⟩ := e__law_take (u := 19) h (by omega) (by decide) (Bt.lit (by decide))
    obtain ⟨r2, S2, a3, c3, c4, a4⟩ := e__law_take (u := 4) a2 (by omega) (by decide) (Bt.lit (by decide))
    have n : 1 + r2 ≠ 0 := by omega
    have t1 : Bt 10 (r1 - 9) := by
      unfold Bt
      have : (r1 - 9).natAbs < 1024 := by omega
      simpa using this
    have t3 : Bt 10 (1 + r2) := Bt.of (by omega) (by omega)
    have z := e__law_fraction (t := r1 - 9) n t3 (by decide) S2
    have b := cut_bt n (t1.mono (show 10 ≤ 20 by decide)) (t3.mono (show 10 ≤ 20 by decide))
    obtain ⟨qs, S3, b1, b2, b3, b4⟩ := w_weights ds (acc ++ [fr (cutF (r1 - 9) (1 + r2))]) S2 (k + 2) a4 (by omega)
    refine ⟨cutF (r1 - 9) (1 + r2) :: qs, S3, ?_, by simp [b2], fun x hx => ?_, b4.mono (by rw [List.length_cons]; omega)⟩
    · simp only [compL, bodyFn, endR, padE, zseq, zret, zif, zpass, znext, zexpr, zasg, gset, gtup, gcons, gnil, zpar, setAll, sval, snew, snil, zsetB, zsetItem, celSet, zk, zvar, zop, toB, zand, zor, znot, zite, zchain, zcons, znil, ztup, zlstF, frz, celD, zcb, zcall, backR, zidx, zneg, zisi, zslice, onone, osome, zlenP, zbld, isBld, appendK, extendK, zlistF, listS, bind_ok, thenS_ok, ofO_some, List.getElem?_cons_zero, List.getElem?_cons_succ, List.set_cons_zero, List.set_cons_succ, List.length_cons, List.length_nil, List.map_cons, List.map_nil, List.replicate, List.cons_append, List.nil_append, List.append_nil, Nat.reduceAdd, Nat.reduceSub, Nat.zero_add, if_true, if_false, ite_true, ite_false, reduceIte, Bool.not_true, Bool.not_false, decide_true, decide_false, Bool.false_eq_true, isND, isNotND, addD, subD, cmpI, lenD, absD, intD, tupleD, Option.map_some, Option.bind_some, Option.bind, seqD, zseqI, idxD, isi_int_non, isi_int_bl, isi_int_int, isi_int_str, isi_int_tup, isi_int_lst, isi_int_dct, isi_bool_non, isi_bool_bl, isi_bool_int, isi_bool_str, isi_bool_tup, isi_bool_lst, isi_bool_dct, isi_tuple_non, isi_tuple_bl, isi_tuple_int, isi_tuple_str, isi_tuple_tup, isi_tuple_lst, isi_tuple_dct, isi_str_non, isi_str_bl, isi_str_int, isi_str_str, isi_str_tup, isi_str_lst, isi_str_dct, isi_list_non, isi_list_bl, isi_list_int, isi_list_str, isi_list_tup, isi_list_lst, isi_list_dct, isi_dict_non, isi_dict_bl, isi_dict_int, isi_dict_str, isi_dict_tup, isi_dict_lst, isi_dict_dct, yes, a1, a3, z, hide, hideE]
      rw [b1]
      simp
    · rcases List.mem_cons.mp hx with e | hx
      · rw [e]; exact ⟨cut_red n, b.1, b.2⟩
      · exact b3 x hx
end
theorem cut_take {α : Type} (xs : List α) (a : Nat) : cutL xs none (some (a : Int)) = xs.take a := by
  unfold cutL
  rw [HT.sIx_none, HT.sIx_nat, List.drop_zero, Nat.sub_zero]
  rcases Nat.le_total a xs.length with h | h
  · rw [Nat.min_eq_left h]
  · rw [Nat.min_eq_right h, List.take_length, List.take_of_length_le h]
theorem cut_drop {α : Type} (xs : List α) (a : Nat) : cutL xs (some (a : Int)) none = xs.drop a := by
  unfold cutL
  rw [HT.sIx_none, HT.sIx_nat]
  rcases Nat.le_total a xs.length with h | h
  · rw [Nat.min_eq_left h]
    exact List.take_of_length_le (by simp)
  · rw [Nat.min_eq_right h, Nat.sub_self, List.drop_of_length_le h]
    rfl
theorem split_ok {fs : List (Int × Int)} (hf : ∀ f ∈ fs, Fk 20 f) (hn : fs.length ≤ 25) (a : Nat) : tot [tot (fs.take a), tot (fs.drop a)] = tot fs ∧ ∀ f ∈ [tot (fs.take a), tot (fs.drop a)], Fk 1027 f := by
  have h1 : ∀ f ∈ fs.take a, Fk 20 f := fun f h => hf f (List.mem_of_mem_take h)
  have h2 : ∀ f ∈ fs.drop a, Fk 20 f := fun f h => hf f (List.mem_of_mem_drop h)
  obtain ⟨q1, q2⟩ := tot_ok (show 2 ≤ 20 by decide) h1
  obtain ⟨q3, q4⟩ := tot_ok (show 2 ≤ 20 by decide) h2
  obtain ⟨q5, q6⟩ := tot_ok (show 2 ≤ 20 by decide) hf
  have l1 : (fs.take a).length ≤ 25 := by rw [List.length_take]; omega
  have l2 : (fs.drop a).length ≤ 25 := by rw [List.length_drop]; omega
  have hd : ∀ f ∈ [tot (fs.take a), tot (fs.drop a)], Fk 1027 f := fun f h => by
    simp only [List.mem_cons, List.not_mem_nil, or_false] at h
    rcases h with e | e
    · rw [e]; exact q1.mono (by omega)
    · rw [e]; exact q3.mono (by omega)
  refine ⟨?_, hd⟩
  obtain ⟨q7, q8⟩ := tot_ok (show 2 ≤ 1027 by decide) hd
  refine red_eq q7.1 q5.1 ?_
  rw [q8, q6]
  simp only [List.map_cons, List.map_nil, List.sum_cons, List.sum_nil, q2, q4]
  have e : (fs.map vl) = (fs.take a).map vl ++ (fs.drop a).map vl := by rw [← List.map_append, List.take_append_drop]
  rw [e, sum_app]
  grind
end Z

set_option Elab.async false
set_option linter.all false
set_option maxRecDepth 100000
set_option maxHeartbeats 4000000
namespace Z
open PySem PySem.Spec PyProof.Rows L2 RZ
abbrev rightB : DenS := (zseq (zasg (zcall f__law_take [] (zcons (zvar 0) (zcons (zcall f__law_of [] (zcons (zvar 0) (zcons (frz (zlstF (zcons (zk (.int 5)) (zcons (zk (.int 13)) (zcons (zk (.int 25)) znil))))) znil))) znil))) (gset 2))
  (zseq (zasg (zcb tupleD (zcons (frz (zcompF (zrange (zcons (zvar 2) znil)) (gset 6) yes (zcall f__law_drawn_fraction [] (zcons (zvar 0) znil)) [6])) znil)) (gset 3))
  (zseq (zasg (zcb tupleD (zcons (frz (zcompF (zrange (zcons (zvar 2) znil)) (gset 6) yes (zcall f__law_fraction [] (zcons (zop subD (zcall f__law_take [] (zcons (zvar 0) (zcons (zk (.int 19)) znil))) (zk (.int 9))) (zcons (zop addD (zk (.int 1)) (zcall f__law_take [] (zcons (zvar 0) (zcons (zk (.int 4)) znil)))) znil))) [6])) znil)) (gset 4))
  (zseq (zif (znot (zcall f__law_one_right [] (zcons (zvar 0) (zcons (zvar 3) (zcons (zvar 4) znil))))) (zseq (zret (zk (.bl false)))
  znext) znext)
  (zseq (zasg (zcall f__law_take [] (zcons (zvar 0) (zcons (zop addD (zvar 2) (zk (.int 1))) znil))) (gset 5))
  (zseq (zif (zop neD (zcall f_total [.non] (zcons (ztup (zcons (zcall f_total [.non] (zcons (zslice (zvar 3) onone (osome (zvar 5))) znil)) (zcons (zcall f_total [.non] (zcons (zslice (zvar 3) (osome (zvar 5)) onone) znil)) znil))) znil)) (zcall f_total [.non] (zcons (zvar 3) znil))) (zseq (zret (zk (.bl false)))
  znext) znext)
  znext))))))
theorem lap {S : List (List D)} {p k : Nat} {e1 e2 e3 e4 e5 : Sl} (h : PotAt S p k) (hk : k + 1000 < 1000000) : ∃ e2' e3' e4' e5' S', rightB ⟨[.val (.cel p), e1, e2, e3, e4, e5, .un], S⟩ = .nx ⟨[.val (.cel p), e1, e2', e3', e4', e5', .un], S'⟩ ∧ PotAt S' p (k + 300) := by
  obtain ⟨d1, S1, a1, a2, a3⟩ := e__law_of (xs := [.int 5, .int 13, .int 25]) h (by omega) (by simp) (by simp)
  obtain ⟨u1, rfl, b1, b2⟩ : ∃ u : Int, d1 = .int u ∧ 0 < u ∧ u ≤ 25 := by
    simp at a2
    rcases a2 with e | e | e <;> subst e <;> exact ⟨_, rfl, by decide, by decide⟩
  obtain ⟨r, S2, a4, c1, c2, a5⟩ := e__law_take (u := u1) a3 (by omega) b1 (Bt.of (by omega) (by omega))
  obtain ⟨n, rfl⟩ : ∃ n : Nat, r = (n : Int) := ⟨r.toNat, by omega⟩
  have ln : ((List.range n).map fun i => D.int (i : Nat)).length = n := by simp
  obtain ⟨fs, S3, f1, f2, f3, f4⟩ := w_draw (e1 := e1) (e2 := .val (.int (n : Nat))) (e3 := e3) (e4 := e4) (e5 := e5) ((List.range n).map fun i => D.int (i : Nat)) [] S2 (k + 1 + 1) a5 (by omega)
  obtain ⟨ws, S4, g1, g2, g3, g4⟩ := w_weights (e1 := e1) (e2 := .val (.int (n : Nat))) (e3 := .val (.tup (fs.map fr))) (e4 := e4) (e5 := e5) ((List.range n).map fun i => D.int (i : Nat)) [] S3 _ f4 (by omega)
  rw [ln] at f2 f4 g2 g4
  obtain ⟨S5, o1, o2⟩ := e__law_one_right g4 (by omega) f3 g3 (by omega) (by omega)
  obtain ⟨at_, S6, t1, t2, t3, t4⟩ := e__law_take (u := (n : Int) + 1) o2 (by omega) (by omega) (Bt.of (by omega) (by omega))
  obtain ⟨j, rfl⟩ : ∃ j : Nat, at_ = (j : Int) := ⟨at_.toNat, by omega⟩
  obtain ⟨s1, s2⟩ := split_ok f3 (show fs.length ≤ 25 by omega) j
  have z1 := e_total0 (fs := fs.take j) (show 2 ≤ 20 by decide) (fun f h => f3 f (List.mem_of_mem_take h)) (by rw [List.length_take]; omega) (by rw [List.length_take]; omega) S6
  have z2 := e_total0 (fs := fs.drop j) (show 2 ≤ 20 by decide) (fun f h => f3 f (List.mem_of_mem_drop h)) (by rw [List.length_drop]; omega) (by rw [List.length_drop]; omega) S6
  have z3 : f_total [.tup [fr (tot (fs.take j)), fr (tot (fs.drop j))], .non] S6 = .ok (fr (tot [tot (fs.take j), tot (fs.drop j)])) S6 := e_total0 (show 2 ≤ 1027 by decide) s2 (by simp) (by simp) S6
  have z4 : f_total [.tup (fs.map fr), .non] S6 = .ok (fr (tot fs)) S6 := e_total0 (show 2 ≤ 20 by decide) f3 (by omega) (by omega) S6
  rw [s1] at z3
  refine ⟨.val (.int (n : Nat)), .val (.tup (fs.map fr)), .val (.tup (ws.map fr)), .val (.int (j : Nat)), S6, ?_, t4.mono (by omega)⟩
  refine (sq1 (m1 := ⟨[.val (.cel p), e1, .val (.int (n : Nat)), e3, e4, e5, .un], S2⟩) ?s1).trans ?_
  case s1 => simp only [bodyFn, endR, padE, zseq, zret, zif, zpass, znext, zexpr, zasg, gset, gtup, gcons, gnil, zpar, setAll, sval, snew, snil, zsetB, zsetItem, celSet, zk, zvar, zop, toB, zand, zor, znot, zite, zchain, zcons, znil, ztup, zlstF, frz, celD, zcb, zcall, backR, zidx, zneg, zisi, zslice, onone, osome, zlenP, zbld, isBld, appendK, extendK, zlistF, listS, bind_ok, thenS_ok, ofO_some, List.getElem?_cons_zero, List.getElem?_cons_succ, List.set_cons_zero, List.set_cons_succ, List.length_cons, List.length_nil, List.map_cons, List.map_nil, List.replicate, List.cons_append, List.nil_append, List.append_nil, Nat.reduceAdd, Nat.reduceSub, Nat.zero_add, if_true, if_false, ite_true, ite_false, reduceIte, Bool.not_true, Bool.not_false, decide_true, decide_false, Bool.false_eq_true, isND, isNotND, addD, subD, cmpI, lenD, absD, intD, tupleD, Option.map_some, Option.bind_some, Option.bind, seqD, zseqI, idxD, isi_int_non, isi_int_bl, isi_int_int, isi_int_str, isi_int_tup, isi_int_lst, isi_int_dct, isi_bool_non, isi_bool_bl, isi_bool_int, isi_bool_str, isi_bool_tup, isi_bool_lst, isi_bool_dct, isi_tuple_non, isi_tuple_bl, isi_tuple_int, isi_tuple_str, isi_tuple_tup, isi_tuple_lst, isi_tuple_dct, isi_str_non, isi_str_bl, isi_str_int, isi_str_str, isi_str_tup, isi_str_lst, isi_str_dct, isi_list_non, isi_list_bl, isi_list_int, isi_list_str, isi_list_tup, isi_list_lst, isi_list_dct, isi_dict_non, isi_dict_bl, isi_dict_int, isi_dict_str, isi_dict_tup, isi_dict_lst, isi_dict_dct, small3, a1, a4]
  refine (sq1 (m1 := ⟨[.val (.cel p), e1, .val (.int (n : Nat)), .val (.tup (fs.map fr)), e4, e5, .un], S3⟩) ?s2).trans ?_
  case s2 =>
    have c1 := frz1 (zcompF1 (src := zrange (zcons (zvar 2) znil)) (m := ⟨[.val (.cel p), e1, .val (.int (n : Nat)), e3, e4, e5, .un], S2⟩) (zrange1 (n := n) (by simp only [bodyFn, endR, padE, zseq, zret, zif, zpass, znext, zexpr, zasg, gset, gtup, gcons, gnil, zpar, setAll, sval, snew, snil, zsetB, zsetItem, celSet, zk, zvar, zop, toB, zand, zor, znot, zite, zchain, zcons, znil, ztup, zlstF, frz, celD, zcb, zcall, backR, zidx, zneg, zisi, zslice, onone, osome, zlenP, zbld, isBld, appendK, extendK, zlistF, listS, bind_ok, thenS_ok, ofO_some, List.getElem?_cons_zero, List.getElem?_cons_succ, List.set_cons_zero, List.set_cons_succ, List.length_cons, List.length_nil, List.map_cons, List.map_nil, List.replicate, List.cons_append, List.nil_append, List.append_nil, Nat.reduceAdd, Nat.reduceSub, Nat.zero_add, if_true, if_false, ite_true, ite_false, reduceIte, Bool.not_true, Bool.not_false, decide_true, decide_false, Bool.false_eq_true, isND, isNotND, addD, subD, cmpI, lenD, absD, intD, tupleD, Option.map_some, Option.bind_some, Option.bind, seqD, zseqI, idxD, isi_int_non, isi_int_bl, isi_int_int, isi_int_str, isi_int_tup, isi_int_lst, isi_int_dct, isi_bool_non, isi_bool_bl, isi_bool_int, isi_bool_str, isi_bool_tup, isi_bool_lst, isi_bool_dct, isi_tuple_non, isi_tuple_bl, isi_tuple_int, isi_tuple_str, isi_tuple_tup, isi_tuple_lst, isi_tuple_dct, isi_str_non, isi_str_bl, isi_str_int, isi_str_str, isi_str_tup, isi_str_lst, isi_str_dct, isi_list_non, isi_list_bl, isi_list_int, isi_list_str, isi_list_tup, isi_list_lst, isi_list_dct, isi_dict_non, isi_dict_bl, isi_dict_int, isi_dict_str, isi_dict_tup, isi_dict_lst, isi_dict_dct]; rfl) (by omega)) (by omega) rfl f1)
    simp only [backE, List.getD_cons_succ, List.getD_cons_zero, List.set_cons_succ, List.set_cons_zero, List.nil_append] at c1
    exact as1 (cb1 (cons1 (fs := znil) c1 rfl) rfl) rfl
  refine (sq1 (m1 := ⟨[.val (.cel p), e1, .val (.int (n : Nat)), .val (.tup (fs.map fr)), .val (.tup (ws.map fr)), e5, .un], S4⟩) ?s3).trans ?_
  case s3 =>
    have c1 := frz1 (zcompF1 (src := zrange (zcons (zvar 2) znil)) (m := ⟨[.val (.cel p), e1, .val (.int (n : Nat)), .val (.tup (fs.map fr)), e4, e5, .un], S3⟩) (zrange1 (n := n) (by simp only [bodyFn, endR, padE, zseq, zret, zif, zpass, znext, zexpr, zasg, gset, gtup, gcons, gnil, zpar, setAll, sval, snew, snil, zsetB, zsetItem, celSet, zk, zvar, zop, toB, zand, zor, znot, zite, zchain, zcons, znil, ztup, zlstF, frz, celD, zcb, zcall, backR, zidx, zneg, zisi, zslice, onone, osome, zlenP, zbld, isBld, appendK, extendK, zlistF, listS, bind_ok, thenS_ok, ofO_some, List.getElem?_cons_zero, List.getElem?_cons_succ, List.set_cons_zero, List.set_cons_succ, List.length_cons, List.length_nil, List.map_cons, List.map_nil, List.replicate, List.cons_append, List.nil_append, List.append_nil, Nat.reduceAdd, Nat.reduceSub, Nat.zero_add, if_true, if_false, ite_true, ite_false, reduceIte, Bool.not_true, Bool.not_false, decide_true, decide_false, Bool.false_eq_true, isND, isNotND, addD, subD, cmpI, lenD, absD, intD, tupleD, Option.map_some, Option.bind_some, Option.bind, seqD, zseqI, idxD, isi_int_non, isi_int_bl, isi_int_int, isi_int_str, isi_int_tup, isi_int_lst, isi_int_dct, isi_bool_non, isi_bool_bl, isi_bool_int, isi_bool_str, isi_bool_tup, isi_bool_lst, isi_bool_dct, isi_tuple_non, isi_tuple_bl, isi_tuple_int, isi_tuple_str, isi_tuple_tup, isi_tuple_lst, isi_tuple_dct, isi_str_non, isi_str_bl, isi_str_int, isi_str_str, isi_str_tup, isi_str_lst, isi_str_dct, isi_list_non, isi_list_bl, isi_list_int, isi_list_str, isi_list_tup, isi_list_lst, isi_list_dct, isi_dict_non, isi_dict_bl, isi_dict_int, isi_dict_str, isi_dict_tup, isi_dict_lst, isi_dict_dct]; rfl) (by omega)) (by omega) rfl g1)
    simp only [backE, List.getD_cons_succ, List.getD_cons_zero, List.set_cons_succ, List.set_cons_zero, List.nil_append] at c1
    exact as1 (cb1 (cons1 (fs := znil) c1 rfl) rfl) rfl
  refine (sq1 (m1 := ⟨[.val (.cel p), e1, .val (.int (n : Nat)), .val (.tup (fs.map fr)), .val (.tup (ws.map fr)), e5, .un], S5⟩) ?s4).trans ?_
  case s4 => simp only [bodyFn, endR, padE, zseq, zret, zif, zpass, znext, zexpr, zasg, gset, gtup, gcons, gnil, zpar, setAll, sval, snew, snil, zsetB, zsetItem, celSet, zk, zvar, zop, toB, zand, zor, znot, zite, zchain, zcons, znil, ztup, zlstF, frz, celD, zcb, zcall, backR, zidx, zneg, zisi, zslice, onone, osome, zlenP, zbld, isBld, appendK, extendK, zlistF, listS, bind_ok, thenS_ok, ofO_some, List.getElem?_cons_zero, List.getElem?_cons_succ, List.set_cons_zero, List.set_cons_succ, List.length_cons, List.length_nil, List.map_cons, List.map_nil, List.replicate, List.cons_append, List.nil_append, List.append_nil, Nat.reduceAdd, Nat.reduceSub, Nat.zero_add, if_true, if_false, ite_true, ite_false, reduceIte, Bool.not_true, Bool.not_false, decide_true, decide_false, Bool.false_eq_true, isND, isNotND, addD, subD, cmpI, lenD, absD, intD, tupleD, Option.map_some, Option.bind_some, Option.bind, seqD, zseqI, idxD, isi_int_non, isi_int_bl, isi_int_int, isi_int_str, isi_int_tup, isi_int_lst, isi_int_dct, isi_bool_non, isi_bool_bl, isi_bool_int, isi_bool_str, isi_bool_tup, isi_bool_lst, isi_bool_dct, isi_tuple_non, isi_tuple_bl, isi_tuple_int, isi_tuple_str, isi_tuple_tup, isi_tuple_lst, isi_tuple_dct, isi_str_non, isi_str_bl, isi_str_int, isi_str_str, isi_str_tup, isi_str_lst, isi_str_dct, isi_list_non, isi_list_bl, isi_list_int, isi_list_str, isi_list_tup, isi_list_lst, isi_list_dct, isi_dict_non, isi_dict_bl, isi_dict_int, isi_dict_str, isi_dict_tup, isi_dict_lst, isi_dict_dct, o1]
  refine (sq1 (m1 := ⟨[.val (.cel p), e1, .val (.int (n : Nat)), .val (.tup (fs.map fr)), .val (.tup (ws.map fr)), .val (.int (j : Nat)), .un], S6⟩) ?s5).trans ?_
  case s5 => simp only [bodyFn, endR, padE, zseq, zret, zif, zpass, znext, zexpr, zasg, gset, gtup, gcons, gnil, zpar, setAll, sval, snew, snil, zsetB, zsetItem, celSet, zk, zvar, zop, toB, zand, zor, znot, zite, zchain, zcons, znil, ztup, zlstF, frz, celD, zcb, zcall, backR, zidx, zneg, zisi, zslice, onone, osome, zlenP, zbld, isBld, appendK, extendK, zlistF, listS, bind_ok, thenS_ok, ofO_some, List.getElem?_cons_zero, List.getElem?_cons_succ, List.set_cons_zero, List.set_cons_succ, List.length_cons, List.length_nil, List.map_cons, List.map_nil, List.replicate, List.cons_append, List.nil_append, List.append_nil, Nat.reduceAdd, Nat.reduceSub, Nat.zero_add, if_true, if_false, ite_true, ite_false, reduceIte, Bool.not_true, Bool.not_false, decide_true, decide_false, Bool.false_eq_true, isND, isNotND, addD, subD, cmpI, lenD, absD, intD, tupleD, Option.map_some, Option.bind_some, Option.bind, seqD, zseqI, idxD, isi_int_non, isi_int_bl, isi_int_int, isi_int_str, isi_int_tup, isi_int_lst, isi_int_dct, isi_bool_non, isi_bool_bl, isi_bool_int, isi_bool_str, isi_bool_tup, isi_bool_lst, isi_bool_dct, isi_tuple_non, isi_tuple_bl, isi_tuple_int, isi_tuple_str, isi_tuple_tup, isi_tuple_lst, isi_tuple_dct, isi_str_non, isi_str_bl, isi_str_int, isi_str_str, isi_str_tup, isi_str_lst, isi_str_dct, isi_list_non, isi_list_bl, isi_list_int, isi_list_str, isi_list_tup, isi_list_lst, isi_list_dct, isi_dict_non, isi_dict_bl, isi_dict_int, isi_dict_str, isi_dict_tup, isi_dict_lst, isi_dict_dct, t1]
  refine (sq1 ?s6).trans rfl
  case s6 => simp only [bodyFn, endR, padE, zseq, zret, zif, zpass, znext, zexpr, zasg, gset, gtup, gcons, gnil, zpar, setAll, sval, snew, snil, zsetB, zsetItem, celSet, zk, zvar, zop, toB, zand, zor, znot, zite, zchain, zcons, znil, ztup, zlstF, frz, celD, zcb, zcall, backR, zidx, zneg, zisi, zslice, onone, osome, zlenP, zbld, isBld, appendK, extendK, zlistF, listS, bind_ok, thenS_ok, ofO_some, List.getElem?_cons_zero, List.getElem?_cons_succ, List.set_cons_zero, List.set_cons_succ, List.length_cons, List.length_nil, List.map_cons, List.map_nil, List.replicate, List.cons_append, List.nil_append, List.append_nil, Nat.reduceAdd, Nat.reduceSub, Nat.zero_add, if_true, if_false, ite_true, ite_false, reduceIte, Bool.not_true, Bool.not_false, decide_true, decide_false, Bool.false_eq_true, isND, isNotND, addD, subD, cmpI, lenD, absD, intD, tupleD, Option.map_some, Option.bind_some, Option.bind, seqD, zseqI, idxD, isi_int_non, isi_int_bl, isi_int_int, isi_int_str, isi_int_tup, isi_int_lst, isi_int_dct, isi_bool_non, isi_bool_bl, isi_bool_int, isi_bool_str, isi_bool_tup, isi_bool_lst, isi_bool_dct, isi_tuple_non, isi_tuple_bl, isi_tuple_int, isi_tuple_str, isi_tuple_tup, isi_tuple_lst, isi_tuple_dct, isi_str_non, isi_str_bl, isi_str_int, isi_str_str, isi_str_tup, isi_str_lst, isi_str_dct, isi_list_non, isi_list_bl, isi_list_int, isi_list_str, isi_list_tup, isi_list_lst, isi_list_dct, isi_dict_non, isi_dict_bl, isi_dict_int, isi_dict_str, isi_dict_tup, isi_dict_lst, isi_dict_dct, sliceD, cut_take, cut_drop, ← List.map_take, ← List.map_drop, z1, z2, show ∀ fs, wF (0, 1) fs (ones fs.length) = tot fs from fun _ => rfl, small2, z3, z4, neF rfl]
theorem laps {p : Nat} : ∀ (ds : List D) (S : List (List D)) (k : Nat) (e1 e2 e3 e4 e5 : Sl), PotAt S p k → k + 300 * ds.length + 1000 < 1000000 →
    ∃ e1' e2' e3' e4' e5' S', forL (gset 1) rightB ds ⟨[.val (.cel p), e1, e2, e3, e4, e5, .un], S⟩ = .nx ⟨[.val (.cel p), e1', e2', e3', e4', e5', .un], S'⟩
  | [], S, k, e1, e2, e3, e4, e5, _, _ => ⟨_, _, _, _, _, _, rfl⟩
  | d :: ds, S, k, e1, e2, e3, e4, e5, h, hk => by
    rw [List.length_cons] at hk
    obtain ⟨a2, a3, a4, a5, S1, b1, b2⟩ := lap (e1 := .val d) (e2 := e2) (e3 := e3) (e4 := e4) (e5 := e5) h (by omega)
    obtain ⟨c1, c2, c3, c4, c5, S2, b3⟩ := laps ds S1 (k + 300) (.val d) a2 a3 a4 a5 b2 (by omega)
    exact ⟨c1, c2, c3, c4, c5, S2, (fo1 rfl b1).trans b3⟩
theorem e__law_right {S : List (List D)} {p : Nat} (h : PotAt S p 0) : ∃ S', f__law_right [.cel p] S = .ok (.bl true) S' := by
  obtain ⟨c1, c2, c3, c4, c5, S2, b3⟩ := laps ((List.range 8).map fun i => D.int (i : Nat)) S 0 .un .un .un .un .un h (by simp)
  have z1 : f_total [.tup [], .non] S2 = .ok (fr (0, 1)) S2 := e_total0 (fs := []) (c := 2) (by decide) (fun f h => by simp at h) (by simp) (by simp) S2
  have z2 : f_total [.tup [], .tup []] S2 = .ok (fr (0, 1)) S2 := e_total1 (fs := []) (ws := []) (c := 2) (fun f h => by simp at h) (fun f h => by simp at h) rfl (by simp) (by simp) S2
  have e0 : eqD (fr (0, 1)) (.tup [.int 0, .int 1]) = some (.bl true) := eqT (p := (0, 1)) (q := (0, 1)) rfl
  refine ⟨S2, ?_⟩
  refine fnR (e := [.val (.cel p), c1, c2, c3, c4, c5, .un]) ?_
  refine (sq1 ((for1 (zrange1 (n := 8) (m1 := ⟨[.val (.cel p), .un, .un, .un, .un, .un, .un], S⟩) ?_ (by decide))).trans b3)).trans (sq2 (rt1 ?_))
  · simp only [padE, bodyFn, endR, padE, zseq, zret, zif, zpass, znext, zexpr, zasg, gset, gtup, gcons, gnil, zpar, setAll, sval, snew, snil, zsetB, zsetItem, celSet, zk, zvar, zop, toB, zand, zor, znot, zite, zchain, zcons, znil, ztup, zlstF, frz, celD, zcb, zcall, backR, zidx, zneg, zisi, zslice, onone, osome, zlenP, zbld, isBld, appendK, extendK, zlistF, listS, bind_ok, thenS_ok, ofO_some, List.getElem?_cons_zero, List.getElem?_cons_succ, List.set_cons_zero, List.set_cons_succ, List.length_cons, List.length_nil, List.map_cons, List.map_nil, List.replicate, List.cons_append, List.nil_append, List.append_nil, Nat.reduceAdd, Nat.reduceSub, Nat.zero_add, if_true, if_false, ite_true, ite_false, reduceIte, Bool.not_true, Bool.not_false, decide_true, decide_false, Bool.false_eq_true, isND, isNotND, addD, subD, cmpI, lenD, absD, intD, tupleD, Option.map_some, Option.bind_some, Option.bind, seqD, zseqI, idxD, isi_int_non, isi_int_bl, isi_int_int, isi_int_str, isi_int_tup, isi_int_lst, isi_int_dct, isi_bool_non, isi_bool_bl, isi_bool_int, isi_bool_str, isi_bool_tup, isi_bool_lst, isi_bool_dct, isi_tuple_non, isi_tuple_bl, isi_tuple_int, isi_tuple_str, isi_tuple_tup, isi_tuple_lst, isi_tuple_dct, isi_str_non, isi_str_bl, isi_str_int, isi_str_str, isi_str_tup, isi_str_lst, isi_str_dct, isi_list_non, isi_list_bl, isi_list_int, isi_list_str, isi_list_tup, isi_list_lst, isi_list_dct, isi_dict_non, isi_dict_bl, isi_dict_int, isi_dict_str, isi_dict_tup, isi_dict_lst, isi_dict_dct]
    rfl
  · simp only [↓ztup_nil, bodyFn, endR, padE, zseq, zret, zif, zpass, znext, zexpr, zasg, gset, gtup, gcons, gnil, zpar, setAll, sval, snew, snil, zsetB, zsetItem, celSet, zk, zvar, zop, toB, zand, zor, znot, zite, zchain, zcons, znil, ztup, zlstF, frz, celD, zcb, zcall, backR, zidx, zneg, zisi, zslice, onone, osome, zlenP, zbld, isBld, appendK, extendK, zlistF, listS, bind_ok, thenS_ok, ofO_some, List.getElem?_cons_zero, List.getElem?_cons_succ, List.set_cons_zero, List.set_cons_succ, List.length_cons, List.length_nil, List.map_cons, List.map_nil, List.replicate, List.cons_append, List.nil_append, List.append_nil, Nat.reduceAdd, Nat.reduceSub, Nat.zero_add, if_true, if_false, ite_true, ite_false, reduceIte, Bool.not_true, Bool.not_false, decide_true, decide_false, Bool.false_eq_true, isND, isNotND, addD, subD, cmpI, lenD, absD, intD, tupleD, Option.map_some, Option.bind_some, Option.bind, seqD, zseqI, idxD, isi_int_non, isi_int_bl, isi_int_int, isi_int_str, isi_int_tup, isi_int_lst, isi_int_dct, isi_bool_non, isi_bool_bl, isi_bool_int, isi_bool_str, isi_bool_tup, isi_bool_lst, isi_bool_dct, isi_tuple_non, isi_tuple_bl, isi_tuple_int, isi_tuple_str, isi_tuple_tup, isi_tuple_lst, isi_tuple_dct, isi_str_non, isi_str_bl, isi_str_int, isi_str_str, isi_str_tup, isi_str_lst, isi_str_dct, isi_list_non, isi_list_bl, isi_list_int, isi_list_str, isi_list_tup, isi_list_lst, isi_list_dct, isi_dict_non, isi_dict_bl, isi_dict_int, isi_dict_str, isi_dict_tup, isi_dict_lst, isi_dict_dct, z1, z2, e0, small2]
theorem w_law {ns : List Int} : ∀ (is : List Nat) (n : Nat) (S : List (List D)), (∀ i ∈ is, i < 64) → ∃ S', compL (gset 1) yes (zcall f__law_right [] (zcons (zcall f__law_pot [] (zcons (zvar 0) (zcons (zvar 1) znil))) znil)) [1] (is.map fun i => D.int (i : Nat)) (List.replicate n (.bl true)) ⟨[.val (.scr ns), .un], S⟩ = .ok (List.replicate (n + is.length) (.bl true)) ⟨[.val (.scr ns), .un], S'⟩
  | [], n, S, _ => ⟨S, rfl⟩
  | i :: is, n, S, h => by
    obtain ⟨S1, a1, a2⟩ := e__law_pot ns i (h i (List.mem_cons_self ..)) S
    obtain ⟨S2, a3⟩ := e__law_right a2
    obtain ⟨S3, a4⟩ := w_law is (n + 1) S2 fun x hx => h x (List.mem_cons_of_mem _ hx)
    refine ⟨S3, ?_⟩
    have e : List.replicate n (D.bl true) ++ [.bl true] = List.replicate (n + 1) (.bl true) := by rw [List.replicate_succ']
    simp only [List.map_cons, compL, bodyFn, endR, padE, zseq, zret, zif, zpass, znext, zexpr, zasg, gset, gtup, gcons, gnil, zpar, setAll, sval, snew, snil, zsetB, zsetItem, celSet, zk, zvar, zop, toB, zand, zor, znot, zite, zchain, zcons, znil, ztup, zlstF, frz, celD, zcb, zcall, backR, zidx, zneg, zisi, zslice, onone, osome, zlenP, zbld, isBld, appendK, extendK, zlistF, listS, bind_ok, thenS_ok, ofO_some, List.getElem?_cons_zero, List.getElem?_cons_succ, List.set_cons_zero, List.set_cons_succ, List.length_cons, List.length_nil, List.map_cons, List.map_nil, List.replicate, List.cons_append, List.nil_append, List.append_nil, Nat.reduceAdd, Nat.reduceSub, Nat.zero_add, if_true, if_false, ite_true, ite_false, reduceIte, Bool.not_true, Bool.not_false, decide_true, decide_false, Bool.false_eq_true, isND, isNotND, addD, subD, cmpI, lenD, absD, intD, tupleD, Option.map_some, Option.bind_some, Option.bind, seqD, zseqI, idxD, isi_int_non, isi_int_bl, isi_int_int, isi_int_str, isi_int_tup, isi_int_lst, isi_int_dct, isi_bool_non, isi_bool_bl, isi_bool_int, isi_bool_str, isi_bool_tup, isi_bool_lst, isi_bool_dct, isi_tuple_non, isi_tuple_bl, isi_tuple_int, isi_tuple_str, isi_tuple_tup, isi_tuple_lst, isi_tuple_dct, isi_str_non, isi_str_bl, isi_str_int, isi_str_str, isi_str_tup, isi_str_lst, isi_str_dct, isi_list_non, isi_list_bl, isi_list_int, isi_list_str, isi_list_tup, isi_list_lst, isi_list_dct, isi_dict_non, isi_dict_bl, isi_dict_int, isi_dict_str, isi_dict_tup, isi_dict_lst, isi_dict_dct, yes, a1, a3, hide, hideE]
    rw [e, a4, show n + 1 + is.length = n + is.length + 1 by omega, List.replicate_succ]
    rfl
theorem right_law : Right f_law 63 := fun ns hn => by
  obtain ⟨j, hj, e⟩ := e__law_cells ns 5 [] (by decide) hn
  obtain ⟨S', e2⟩ := w_law (ns := ns) (List.range j) 0 [] fun i hi => by have := List.mem_range.mp hi; omega
  refine ⟨S', ?_⟩
  refine fnR (e := [.val (.scr ns), .un]) (sq2 (rt1 (cb1 (cons1 (fs := znil) (frz1 (zcompF1 (m1 := ⟨[.val (.scr ns), .un], []⟩) (ds := (List.range j).map fun i => D.int (i : Nat)) ?_ (by simp; omega) rfl e2)) rfl) (allD_true _))))
  simp only [padE, bodyFn, endR, padE, zseq, zret, zif, zpass, znext, zexpr, zasg, gset, gtup, gcons, gnil, zpar, setAll, sval, snew, snil, zsetB, zsetItem, celSet, zk, zvar, zop, toB, zand, zor, znot, zite, zchain, zcons, znil, ztup, zlstF, frz, celD, zcb, zcall, backR, zidx, zneg, zisi, zslice, onone, osome, zlenP, zbld, isBld, appendK, extendK, zlistF, listS, bind_ok, thenS_ok, ofO_some, List.getElem?_cons_zero, List.getElem?_cons_succ, List.set_cons_zero, List.set_cons_succ, List.length_cons, List.length_nil, List.map_cons, List.map_nil, List.replicate, List.cons_append, List.nil_append, List.append_nil, Nat.reduceAdd, Nat.reduceSub, Nat.zero_add, if_true, if_false, ite_true, ite_false, reduceIte, Bool.not_true, Bool.not_false, decide_true, decide_false, Bool.false_eq_true, isND, isNotND, addD, subD, cmpI, lenD, absD, intD, tupleD, Option.map_some, Option.bind_some, Option.bind, seqD, zseqI, idxD, isi_int_non, isi_int_bl, isi_int_int, isi_int_str, isi_int_tup, isi_int_lst, isi_int_dct, isi_bool_non, isi_bool_bl, isi_bool_int, isi_bool_str, isi_bool_tup, isi_bool_lst, isi_bool_dct, isi_tuple_non, isi_tuple_bl, isi_tuple_int, isi_tuple_str, isi_tuple_tup, isi_tuple_lst, isi_tuple_dct, isi_str_non, isi_str_bl, isi_str_int, isi_str_str, isi_str_tup, isi_str_lst, isi_str_dct, isi_list_non, isi_list_bl, isi_list_int, isi_list_str, isi_list_tup, isi_list_lst, isi_list_dct, isi_dict_non, isi_dict_bl, isi_dict_int, isi_dict_str, isi_dict_tup, isi_dict_lst, isi_dict_dct, e]
end Z

set_option Elab.async false
set_option linter.all false
set_option maxRecDepth 100000
set_option maxHeartbeats 2000000
namespace Z
open PySem PySem.Spec PyProof.Rows L2 RZ
section
variable {Γ : Gm} {P : Program} {w : World} {mg : Str → Option Value} {base : Heap} {f : Addr} {fd : FuncData}
theorem sc_is_integer : FnScope N_is_integer ["value", "low", "high"] (defScope s_is_integer) := ⟨rfl, rfl, rfl, by decide +kernel, rfl, by decide +kernel, by decide +kernel⟩
theorem c_is_integer (F : FunD Γ.K "is_integer" "is_integer" (defArgs s_is_integer) (defBody s_is_integer) (defScope s_is_integer) [V.non, V.non] [] f fd) (hm : mg "is_integer" = some (.ref f)) (M : Bn mg) : Cal Γ P w mg base "is_integer" 1 3 [.non, .non] f_is_integer :=
  have S := sc_is_integer
  calOf F hm sc_is_integer rfl (fun cdv A outer s H E z hg hr =>
  z_seq (z_if (PW.pt (w_or (z_notT (tval (qisi M (qv 0)))) (pw_or1 (tval (qisi M (qv 0)))))) (z_seq (z_ret z_bl)
  z_nil) z_nil)
  (z_seq (z_ret (z_and (z_or (qcmp cis (qv 1) z_non) (pe_one (qcmp cle (qv 1) (qv 0)))) (pe_one (z_or (qcmp cis (qv 2) z_non) (pe_one (qcmp cle (qv 0) (qv 2)))))))
  z_nil)) (fun j hj => match j, hj with
    | 0, _ => (FunD.binds1 (ps := ["value", "low", "high"]) F 1 0 (by decide) rfl fun _ _ _ _ _ _ _ us its h1 h2 => match us, its, h1, h2 with | [_], [_, _], _, _ => ⟨_, rfl, rfl⟩).elim fun ds h => ⟨ds, _, h.2, h.1, fun z => by simp [RepL, Rep]⟩
    | 1, _ => (FunD.binds1 (ps := ["value", "low", "high"]) F 2 1 (by decide) rfl fun _ _ _ _ _ _ _ us its h1 h2 => match us, its, h1, h2 with | [_, _], [_, _], _, _ => ⟨_, rfl, rfl⟩).elim fun ds h => ⟨ds, _, h.2, h.1, fun z => by simp [RepL, Rep]⟩
    | 2, _ => (FunD.binds1 (ps := ["value", "low", "high"]) F 3 2 (by decide) rfl fun _ _ _ _ _ _ _ us its h1 h2 => match us, its, h1, h2 with | [_, _, _], [_, _], _, _ => ⟨_, rfl, rfl⟩).elim fun ds h => ⟨ds, _, h.2, h.1, fun z => by simp [RepL, Rep]⟩)
theorem sc_is_tuple : FnScope N_is_tuple ["value", "few", "most"] (defScope s_is_tuple) := ⟨rfl, rfl, rfl, by decide +kernel, rfl, by decide +kernel, by decide +kernel⟩
theorem c_is_tuple (F : FunD Γ.K "is_tuple" "is_tuple" (defArgs s_is_tuple) (defBody s_is_tuple) (defScope s_is_tuple) [V.non] [] f fd) (hm : mg "is_tuple" = some (.ref f)) (M : Bn mg) : Cal Γ P w mg base "is_tuple" 1 3 [.non] f_is_tuple :=
  have S := sc_is_tuple
  calOf F hm sc_is_tuple rfl (fun cdv A outer s H E z hg hr =>
  z_seq (z_ret (z_and (qisi M (qv 0)) (z_and (qcmp cle (qv 1) (qblt blen M (ac (qv 0) an))) (pe_one (z_or (qcmp cis (qv 2) z_non) (pe_one (qcmp cle (qblt blen M (ac (qv 0) an)) (qv 2))))))))
  z_nil) (fun j hj => match j, hj with
    | 0, _ => (FunD.binds1 (ps := ["value", "few", "most"]) F 2 0 (by decide) rfl fun _ _ _ _ _ _ _ us its h1 h2 => match us, its, h1, h2 with | [_, _], [_], _, _ => ⟨_, rfl, rfl⟩).elim fun ds h => ⟨ds, _, h.2, h.1, fun z => by simp [RepL, Rep]⟩
    | 1, _ => (FunD.binds1 (ps := ["value", "few", "most"]) F 3 1 (by decide) rfl fun _ _ _ _ _ _ _ us its h1 h2 => match us, its, h1, h2 with | [_, _, _], [_], _, _ => ⟨_, rfl, rfl⟩).elim fun ds h => ⟨ds, _, h.2, h.1, fun z => by simp [RepL, Rep]⟩)
theorem sc_common : FnScope N_common ["one", "other"] (defScope s_common) := ⟨rfl, rfl, rfl, by decide +kernel, rfl, by decide +kernel, by decide +kernel⟩
theorem c_common (F : FunD Γ.K "common" "common" (defArgs s_common) (defBody s_common) (defScope s_common) [] [] f fd) (hm : mg "common" = some (.ref f)) (M : Bn mg) : Cal Γ P w mg base "common" 1 2 [] f_common :=
  have S := sc_common
  calOf F hm sc_common rfl (fun cdv A outer s H E z hg hr =>
  z_seq (par2 0 1 S.nd (sval' (qblt babs M (ac (qv 0) an)) (sval' (qblt babs M (ac (qv 1) an)) s_nil)))
  (z_seq (swhile ownsCx (tcmp cgt (qv 1) z_int) (z_seq (par2 0 1 S.nd (sval' (qv 1) (sval' (qmod (qv 0) (qv 1)) s_nil)))
  z_nil))
  (z_seq (z_ret (qv 0))
  z_nil))) (bind0 F fun _ _ _ _ _ _ us hl => match us, hl with | [_, _], _ => rfl)
theorem sc_cut : FnScope N_cut ["top", "low"] (defScope s_cut) := ⟨rfl, rfl, rfl, by decide +kernel, rfl, by decide +kernel, by decide +kernel⟩
theorem c_cut (F : FunD Γ.K "cut" "cut" (defArgs s_cut) (defBody s_cut) (defScope s_cut) [] [] f fd) (hm : mg "cut" = some (.ref f)) (M : Bn mg) (Ccommon : Cal Γ P w mg base "common" 1 2 [] f_common) : Cal Γ P w mg base "cut" 2 2 [] f_cut :=
  have S := sc_cut
  calOf F hm sc_cut rfl (fun cdv A outer s H E z hg hr =>
  z_seq (sset 2 S.nd (z_ite (tcmp cgt (qv 1) z_int) (qcall Ccommon 0 hr (by decide) hg takesCx (ac (qv 0) (ac (qv 1) an))) (qneg (qcall Ccommon 0 hr (by decide) hg takesCx (ac (qv 0) (ac (qv 1) an))))))
  (z_seq (z_ret (qtup (ac (qfdiv (qv 0) (qv 2)) (ac (qfdiv (qv 1) (qv 2)) an))))
  z_nil)) (bind0 F fun _ _ _ _ _ _ us hl => match us, hl with | [_, _], _ => rfl)
theorem sc_is_fraction : FnScope N_is_fraction ["value"] (defScope s_is_fraction) := ⟨rfl, rfl, rfl, by decide +kernel, rfl, by decide +kernel, by decide +kernel⟩
theorem c_is_fraction (F : FunD Γ.K "is_fraction" "is_fraction" (defArgs s_is_fraction) (defBody s_is_fraction) (defScope s_is_fraction) [] [] f fd) (hm : mg "is_fraction" = some (.ref f)) (M : Bn mg) (Cis_tuple : Cal Γ P w mg base "is_tuple" 1 3 [.non] f_is_tuple) (Cis_integer : Cal Γ P w mg base "is_integer" 1 3 [.non, .non] f_is_integer) (Ccommon : Cal Γ P w mg base "common" 1 2 [] f_common) (GPAIR : Gc Γ mg "PAIR" (.int 2)) : Cal Γ P w mg base "is_fraction" 2 1 [] f_is_fraction :=
  have S := sc_is_fraction
  calOf F hm sc_is_fraction rfl (fun cdv A outer s H E z hg hr =>
  z_seq (z_if (PW.pt (w_or (z_notT (tval (qcall Cis_tuple 1 hr (by decide) hg takesCx (ac (qv 0) (ac (qg GPAIR) (ac (qg GPAIR) an)))))) (w_or (z_notT (tval (qcall Cis_integer 0 hr (by decide) hg takesCx (ac (qidx (qv 0) z_int) an)))) (pw_or1 (z_notT (tval (qcall Cis_integer 1 hr (by decide) hg takesCx (ac (qidx (qv 0) z_int) (ac z_int an))))))))) (z_seq (z_ret z_bl)
  z_nil) z_nil)
  (z_seq (z_ret (qcmp (ceq hr) (qcall Ccommon 0 hr (by decide) hg takesCx (ac (qidx (qv 0) z_int) (ac (qidx (qv 0) z_int) an))) z_int))
  z_nil)) (bind0 F fun _ _ _ _ _ _ us hl => match us, hl with | [_], _ => rfl)
theorem sc_are_fractions : FnScope N_are_fractions ["value", "many"] (defScope s_are_fractions) := ⟨rfl, rfl, rfl, by decide +kernel, rfl, by decide +kernel, by decide +kernel⟩
theorem c_are_fractions (F : FunD Γ.K "are_fractions" "are_fractions" (defArgs s_are_fractions) (defBody s_are_fractions) (defScope s_are_fractions) [V.non] [] f fd) (hm : mg "are_fractions" = some (.ref f)) (M : Bn mg) (Cis_fraction : Cal Γ P w mg base "is_fraction" 2 1 [] f_is_fraction) : Cal Γ P w mg base "are_fractions" 3 2 [.non] f_are_fractions :=
  have S := sc_are_fractions
  calOf F hm sc_are_fractions rfl (fun cdv A outer s H E z hg hr =>
  z_seq (z_if (PW.pt (w_or (z_notT (tval (qisi M (qv 0)))) (pw_or1 (PW.pt (w_and (tcmp cisnt (qv 1) z_non) (pw_and1 (tcmp (cne hr) (qblt blen M (ac (qv 0) an)) (qv 1)))))))) (z_seq (z_ret z_bl)
  z_nil) z_nil)
  (z_seq (z_ret (qblt ball M (ac (z_frz (fcomp S.nd (own := [("one", 2)]) (iseq (qv 0)) (by rfl) (fun _ _ _ _ _ _ => gname 2 S.nd) (fun _ _ _ _ _ _ => tno) (fun _ _ _ _ _ _ => qcall Cis_fraction 0 hr (by decide) hg takes0 (ac (qv 2) an)))) an)))
  z_nil)) (fun j hj => match j, hj with
    | 0, _ => (FunD.binds1 (ps := ["value", "many"]) F 1 0 (by decide) rfl fun _ _ _ _ _ _ _ us its h1 h2 => match us, its, h1, h2 with | [_], [_], _, _ => ⟨_, rfl, rfl⟩).elim fun ds h => ⟨ds, _, h.2, h.1, fun z => by simp [RepL, Rep]⟩
    | 1, _ => (FunD.binds1 (ps := ["value", "many"]) F 2 1 (by decide) rfl fun _ _ _ _ _ _ _ us its h1 h2 => match us, its, h1, h2 with | [_, _], [_], _, _ => ⟨_, rfl, rfl⟩).elim fun ds h => ⟨ds, _, h.2, h.1, fun z => by simp [RepL, Rep]⟩)
theorem sc_plus : FnScope N_plus ["one", "other"] (defScope s_plus) := ⟨rfl, rfl, rfl, by decide +kernel, rfl, by decide +kernel, by decide +kernel⟩
theorem c_plus (F : FunD Γ.K "plus" "plus" (defArgs s_plus) (defBody s_plus) (defScope s_plus) [] [] f fd) (hm : mg "plus" = some (.ref f)) (M : Bn mg) (Ccut : Cal Γ P w mg base "cut" 2 2 [] f_cut) : Cal Γ P w mg base "plus" 3 2 [] f_plus :=
  have S := sc_plus
  calOf F hm sc_plus rfl (fun cdv A outer s H E z hg hr =>
  z_seq (z_ret (qcall Ccut 0 hr (by decide) hg takesCx (ac (qadd (qmul (qidx (qv 0) z_int) (qidx (qv 1) z_int)) (qmul (qidx (qv 1) z_int) (qidx (qv 0) z_int))) (ac (qmul (qidx (qv 0) z_int) (qidx (qv 1) z_int)) an))))
  z_nil) (bind0 F fun _ _ _ _ _ _ us hl => match us, hl with | [_, _], _ => rfl)
theorem sc_times : FnScope N_times ["one", "other"] (defScope s_times) := ⟨rfl, rfl, rfl, by decide +kernel, rfl, by decide +kernel, by decide +kernel⟩
theorem c_times (F : FunD Γ.K "times" "times" (defArgs s_times) (defBody s_times) (defScope s_times) [] [] f fd) (hm : mg "times" = some (.ref f)) (M : Bn mg) (Ccut : Cal Γ P w mg base "cut" 2 2 [] f_cut) : Cal Γ P w mg base "times" 3 2 [] f_times :=
  have S := sc_times
  calOf F hm sc_times rfl (fun cdv A outer s H E z hg hr =>
  z_seq (z_ret (qcall Ccut 0 hr (by decide) hg takesCx (ac (qmul (qidx (qv 0) z_int) (qidx (qv 1) z_int)) (ac (qmul (qidx (qv 0) z_int) (qidx (qv 1) z_int)) an))))
  z_nil) (bind0 F fun _ _ _ _ _ _ us hl => match us, hl with | [_, _], _ => rfl)
theorem sc_weighed : FnScope N_weighed ["some", "weights"] (defScope s_weighed) := ⟨rfl, rfl, rfl, by decide +kernel, rfl, by decide +kernel, by decide +kernel⟩
theorem c_weighed (F : FunD Γ.K "weighed" "weighed" (defArgs s_weighed) (defBody s_weighed) (defScope s_weighed) [] [] f fd) (hm : mg "weighed" = some (.ref f)) (M : Bn mg) (Cplus : Cal Γ P w mg base "plus" 3 2 [] f_plus) (Ctimes : Cal Γ P w mg base "times" 3 2 [] f_times) (GNOUGHT : Gc Γ mg "NOUGHT" (.tup [.int 0, .int 1])) : Cal Γ P w mg base "weighed" 4 2 [] f_weighed :=
  have S := sc_weighed
  calOf F hm sc_weighed rfl (fun cdv A outer s H E z hg hr =>
  z_seq (sset 2 S.nd (qg GNOUGHT))
  (z_seq (sfor ownsCx (izip M (ac (qv 0) (ac (qv 1) an))) (gtuple (gscons (gname 3 S.nd) (gscons (gname 4 S.nd) z_gnil))) (z_seq (sset 2 S.nd (qcall Cplus 0 hr (by decide) hg takesCx (ac (qv 2) (ac (qcall Ctimes 0 hr (by decide) hg takesCx (ac (qv 3) (ac (qv 4) an))) an))))
  z_nil))
  (z_seq (z_ret (qv 2))
  z_nil))) (bind0 F fun _ _ _ _ _ _ us hl => match us, hl with | [_, _], _ => rfl)
theorem sc_fraction : FnScope N_fraction ["top", "low"] (defScope s_fraction) := ⟨rfl, rfl, rfl, by decide +kernel, rfl, by decide +kernel, by decide +kernel⟩
theorem c_fraction (F : FunD Γ.K "fraction" "fraction" (defArgs s_fraction) (defBody s_fraction) (defScope s_fraction) [V.int 1] [] f fd) (hm : mg "fraction" = some (.ref f)) (M : Bn mg) (Cis_integer : Cal Γ P w mg base "is_integer" 1 3 [.non, .non] f_is_integer) (Ccut : Cal Γ P w mg base "cut" 2 2 [] f_cut) : Cal Γ P w mg base "fraction" 3 2 [.int 1] f_fraction :=
  have S := sc_fraction
  calOf F hm sc_fraction rfl (fun cdv A outer s H E z hg hr =>
  z_seq (z_if (z_notT (tval (qcall Cis_integer 0 hr (by decide) hg takesCx (ac (qv 0) an)))) (z_seq sbad
  z_nil) z_nil)
  (z_seq (z_if (PW.pt (w_or (z_notT (tval (qcall Cis_integer 0 hr (by decide) hg takesCx (ac (qv 1) an)))) (pw_or1 (tcmp (ceq hr) (qv 1) z_int)))) (z_seq sbad
  z_nil) z_nil)
  (z_seq (z_ret (qcall Ccut 0 hr (by decide) hg takesCx (ac (qv 0) (ac (qv 1) an))))
  z_nil))) (fun j hj => match j, hj with
    | 0, _ => (FunD.binds1 (ps := ["top", "low"]) F 1 0 (by decide) rfl fun _ _ _ _ _ _ _ us its h1 h2 => match us, its, h1, h2 with | [_], [_], _, _ => ⟨_, rfl, rfl⟩).elim fun ds h => ⟨ds, _, h.2, h.1, fun z => by simp [RepL, Rep]⟩
    | 1, _ => (FunD.binds1 (ps := ["top", "low"]) F 2 1 (by decide) rfl fun _ _ _ _ _ _ _ us its h1 h2 => match us, its, h1, h2 with | [_, _], [_], _, _ => ⟨_, rfl, rfl⟩).elim fun ds h => ⟨ds, _, h.2, h.1, fun z => by simp [RepL, Rep]⟩)
theorem sc_total : FnScope N_total ["fractions", "weights"] (defScope s_total) := ⟨rfl, rfl, rfl, by decide +kernel, rfl, by decide +kernel, by decide +kernel⟩
theorem c_total (F : FunD Γ.K "total" "total" (defArgs s_total) (defBody s_total) (defScope s_total) [V.non] [] f fd) (hm : mg "total" = some (.ref f)) (M : Bn mg) (Care_fractions : Cal Γ P w mg base "are_fractions" 3 2 [.non] f_are_fractions) (Cweighed : Cal Γ P w mg base "weighed" 4 2 [] f_weighed) (GONE : Gc Γ mg "ONE" (.tup [.int 1, .int 1])) : Cal Γ P w mg base "total" 5 2 [.non] f_total :=
  have S := sc_total
  calOf F hm sc_total rfl (fun cdv A outer s H E z hg hr =>
  z_seq (z_if (z_notT (tval (qcall Care_fractions 0 hr (by decide) hg takesCx (ac (qv 0) an)))) (z_seq sbad
  z_nil) z_nil)
  (z_seq (z_if (tcmp cis (qv 1) z_non) (z_seq (sset 1 S.nd (qmul (qtup (ac (qg GONE) an)) (qblt blen M (ac (qv 0) an))))
  z_nil) z_nil)
  (z_seq (z_if (z_notT (tval (qcall Care_fractions 1 hr (by decide) hg takesCx (ac (qv 1) (ac (qblt blen M (ac (qv 0) an)) an))))) (z_seq sbad
  z_nil) z_nil)
  (z_seq (z_ret (qcall Cweighed 0 hr (by decide) hg takesCx (ac (qv 0) (ac (qv 1) an))))
  z_nil)))) (fun j hj => match j, hj with
    | 0, _ => (FunD.binds1 (ps := ["fractions", "weights"]) F 1 0 (by decide) rfl fun _ _ _ _ _ _ _ us its h1 h2 => match us, its, h1, h2 with | [_], [_], _, _ => ⟨_, rfl, rfl⟩).elim fun ds h => ⟨ds, _, h.2, h.1, fun z => by simp [RepL, Rep]⟩
    | 1, _ => (FunD.binds1 (ps := ["fractions", "weights"]) F 2 1 (by decide) rfl fun _ _ _ _ _ _ _ us its h1 h2 => match us, its, h1, h2 with | [_, _], [_], _, _ => ⟨_, rfl, rfl⟩).elim fun ds h => ⟨ds, _, h.2, h.1, fun z => by simp [RepL, Rep]⟩)
theorem sc__law_pot : FnScope N__law_pot ["_law_script", "_law_place"] (defScope s__law_pot) := ⟨rfl, rfl, rfl, by decide +kernel, rfl, by decide +kernel, by decide +kernel⟩
theorem c__law_pot (F : FunD Γ.K "_law_pot" "_law_pot" (defArgs s__law_pot) (defBody s__law_pot) (defScope s__law_pot) [] [] f fd) (hm : mg "_law_pot" = some (.ref f)) (M : Bn mg) : Cal Γ P w mg base "_law_pot" 1 2 [] f__law_pot :=
  have S := sc__law_pot
  calOf F hm sc__law_pot rfl (fun cdv A outer s H E z hg hr =>
  z_seq (sset 2 S.nd (z_ite (tcmp clt (qv 1) (qblt blen M (ac (qv 0) an))) (qidx (qv 0) (qv 1)) (qadd (qmul z_int (qv 1)) z_int)))
  (z_seq (sset 3 S.nd (qmul (qmod (qblt bint M (ac (qblt babs M (ac (qv 2) an)) an)) (qpow (qpow z_int z_int) z_int)) (qblt bint M (ac (qcmp cge (qblt babs M (ac (qv 2) an)) (qpow z_int z_int)) an))))
  (z_seq (sset 4 S.nd (qmod (qblt bint M (ac (qv 2) an)) z_int))
  (z_seq (z_ret (z_celD (flst (ac (qv 3) (ac (qmod (qblt bint M (ac (qadd (qadd (qmul (qv 4) z_int) (qmul (qmul z_int (qv 1)) (qv 1))) z_int) an)) z_int) (ac z_int an))))))
  z_nil)))) (bind0 F fun _ _ _ _ _ _ us hl => match us, hl with | [_, _], _ => rfl)
theorem sc__law_take : FnScope N__law_take ["_law_pot_here", "_law_upto"] (defScope s__law_take) := ⟨rfl, rfl, rfl, by decide +kernel, rfl, by decide +kernel, by decide +kernel⟩
theorem c__law_take (F : FunD Γ.K "_law_take" "_law_take" (defArgs s__law_take) (defBody s__law_take) (defScope s__law_take) [] [] f fd) (hm : mg "_law_take" = some (.ref f)) (M : Bn mg) : Cal Γ P w mg base "_law_take" 1 2 [] f__law_take :=
  have S := sc__law_take
  calOf F hm sc__law_take rfl (fun cdv A outer s H E z hg hr =>
  z_seq (z_if (tcmp cgt (qidx (qv 0) z_int) z_int) (z_seq (sset 4 S.nd (qmod (qblt bint M (ac (qidx (qv 0) z_int) an)) (qv 1)))
  (z_seq (sitem (qfdiv (qidx (qv 0) z_int) (qv 1)) (qv 0) z_int)
  (z_seq (z_ret (qv 4))
  z_nil))) z_nil)
  (z_seq (sitem (qadd (qidx (qv 0) z_int) z_int) (qv 0) z_int)
  (z_seq (sset 2 S.nd (qidx (z_frz (flst (ac z_int (ac z_int (ac z_int (ac z_int (ac z_int an))))))) (qmod (qblt bint M (ac (qidx (qv 0) z_int) an)) z_int)))
  (z_seq (sset 3 S.nd (qmod (qblt bint M (ac (qpow (qblt bint M (ac (qadd (qadd (qidx (qv 0) z_int) (qmul (qmul z_int (qidx (qv 0) z_int)) (qidx (qv 0) z_int))) z_int) an)) z_int) an)) (qv 2)))
  (z_seq (sset 3 S.nd (qmod (qblt bint M (ac (qmul (qv 3) (qadd (qmod (qblt bint M (ac (qv 3) an)) z_int) (qmul z_int (qidx (qv 0) z_int)))) an)) z_int))
  (z_seq (z_ret (qmod (qblt bint M (ac (qfdiv (qv 3) z_int) an)) (qv 1)))
  z_nil)))))) (bind0 F fun _ _ _ _ _ _ us hl => match us, hl with | [_, _], _ => rfl)
theorem sc__law_ones : FnScope N__law_ones ["_law_many"] (defScope s__law_ones) := ⟨rfl, rfl, rfl, by decide +kernel, rfl, by decide +kernel, by decide +kernel⟩
theorem c__law_ones (F : FunD Γ.K "_law_ones" "_law_ones" (defArgs s__law_ones) (defBody s__law_ones) (defScope s__law_ones) [] [] f fd) (hm : mg "_law_ones" = some (.ref f)) (M : Bn mg) : Cal Γ P w mg base "_law_ones" 1 1 [] f__law_ones :=
  have S := sc__law_ones
  calOf F hm sc__law_ones rfl (fun cdv A outer s H E z hg hr =>
  z_seq (z_ret (qmul (qtup (ac (qtup (ac z_int (ac z_int an))) an)) (qv 0)))
  z_nil) (bind0 F fun _ _ _ _ _ _ us hl => match us, hl with | [_], _ => rfl)
theorem sc__law_gcd : FnScope N__law_gcd ["_law_some_here"] (defScope s__law_gcd) := ⟨rfl, rfl, rfl, by decide +kernel, rfl, by decide +kernel, by decide +kernel⟩
theorem c__law_gcd (F : FunD Γ.K "_law_gcd" "_law_gcd" (defArgs s__law_gcd) (defBody s__law_gcd) (defScope s__law_gcd) [] [] f fd) (hm : mg "_law_gcd" = some (.ref f)) (M : Bn mg) : Cal Γ P w mg base "_law_gcd" 1 1 [] f__law_gcd :=
  have S := sc__law_gcd
  calOf F hm sc__law_gcd rfl (fun cdv A outer s H E z hg hr =>
  z_seq (sset 1 S.nd z_int)
  (z_seq (sfor ownsCx (iseq (qv 0)) (gname 2 S.nd) (z_seq (sset 3 S.nd (qblt babs M (ac (qblt bint M (ac (qv 2) an)) an)))
  (z_seq (swhile ownsCx (tcmp cgt (qv 3) z_int) (z_seq (par2 1 3 S.nd (sval' (qv 3) (sval' (qmod (qblt bint M (ac (qv 1) an)) (qv 3)) s_nil)))
  z_nil))
  z_nil)))
  (z_seq (z_ret (qv 1))
  z_nil))) (bind0 F fun _ _ _ _ _ _ us hl => match us, hl with | [_], _ => rfl)
theorem sc__law_fraction : FnScope N__law_fraction ["_law_top", "_law_low"] (defScope s__law_fraction) := ⟨rfl, rfl, rfl, by decide +kernel, rfl, by decide +kernel, by decide +kernel⟩
theorem c__law_fraction (F : FunD Γ.K "_law_fraction" "_law_fraction" (defArgs s__law_fraction) (defBody s__law_fraction) (defScope s__law_fraction) [] [] f fd) (hm : mg "_law_fraction" = some (.ref f)) (M : Bn mg) (C_law_gcd : Cal Γ P w mg base "_law_gcd" 1 1 [] f__law_gcd) : Cal Γ P w mg base "_law_fraction" 2 2 [] f__law_fraction :=
  have S := sc__law_fraction
  calOf F hm sc__law_fraction rfl (fun cdv A outer s H E z hg hr =>
  z_seq (sset 2 S.nd (qmul (qcall C_law_gcd 0 hr (by decide) hg takesCx (ac (z_frz (flst (ac (qv 0) (ac (qv 1) an)))) an)) (z_ite (tcmp cgt (qv 1) z_int) z_int (qneg z_int))))
  (z_seq (z_ret (qtup (ac (qfdiv (qv 0) (qv 2)) (ac (qfdiv (qv 1) (qv 2)) an))))
  z_nil)) (bind0 F fun _ _ _ _ _ _ us hl => match us, hl with | [_, _], _ => rfl)
theorem sc__law_sum : FnScope N__law_sum ["_law_fractions", "_law_weights"] (defScope s__law_sum) := ⟨rfl, rfl, rfl, by decide +kernel, rfl, by decide +kernel, by decide +kernel⟩
theorem c__law_sum (F : FunD Γ.K "_law_sum" "_law_sum" (defArgs s__law_sum) (defBody s__law_sum) (defScope s__law_sum) [] [] f fd) (hm : mg "_law_sum" = some (.ref f)) (M : Bn mg) (C_law_fraction : Cal Γ P w mg base "_law_fraction" 2 2 [] f__law_fraction) : Cal Γ P w mg base "_law_sum" 3 2 [] f__law_sum :=
  have S := sc__law_sum
  calOf F hm sc__law_sum rfl (fun cdv A outer s H E z hg hr =>
  z_seq (npar (is := [2, 3]) (sval' z_int (sval' z_int s_nil)) (gn 2 S.nd (gn 3 S.nd gn0)))
  (z_seq (sfor ownsCx (izip M (ac (qv 0) (ac (qv 1) an))) (gtuple (gscons (gname 4 S.nd) (gscons (gname 5 S.nd) z_gnil))) (z_seq (sset 6 S.nd (qmul (qidx (qv 4) z_int) (qidx (qv 5) z_int)))
  (z_seq (sset 2 S.nd (qadd (qmul (qv 2) (qv 6)) (qmul (qmul (qidx (qv 4) z_int) (qidx (qv 5) z_int)) (qv 3))))
  (z_seq (sset 3 S.nd (qmul (qv 3) (qv 6)))
  z_nil))))
  (z_seq (z_ret (qcall C_law_fraction 0 hr (by decide) hg takesCx (ac (qv 2) (ac (qv 3) an))))
  z_nil))) (bind0 F fun _ _ _ _ _ _ us hl => match us, hl with | [_, _], _ => rfl)
theorem sc__law_some : FnScope N__law_some ["_law_pot_here", "_law_pool", "_law_many"] (defScope s__law_some) := ⟨rfl, rfl, rfl, by decide +kernel, rfl, by decide +kernel, by decide +kernel⟩
theorem c__law_some (F : FunD Γ.K "_law_some" "_law_some" (defArgs s__law_some) (defBody s__law_some) (defScope s__law_some) [] [] f fd) (hm : mg "_law_some" = some (.ref f)) (M : Bn mg) (C_law_take : Cal Γ P w mg base "_law_take" 1 2 [] f__law_take) : Cal Γ P w mg base "_law_some" 2 3 [] f__law_some :=
  have S := sc__law_some
  calOf F hm sc__law_some rfl (fun cdv A outer s H E z hg hr =>
  z_seq (par2 4 5 S.nd (snew' (flist M (ac (qv 1) an)) (fun _ => snew' (flst an) (fun _ => s_nil))))
  (z_seq (sfor ownsCx (irange M (ac (qv 2) an)) (gname 3 S.nd) (z_seq (sexpr (qbld 5 mappend (ac (qbld 4 mpop (ac (qcall C_law_take 0 hr (by decide) hg takesCx (ac (qv 0) (ac (qlenP 4 M) an))) an)) an)))
  z_nil))
  (z_seq (z_ret (qv 5))
  z_nil))) (bind0 F fun _ _ _ _ _ _ us hl => match us, hl with | [_, _, _], _ => rfl)
theorem sc__law_of : FnScope N__law_of ["_law_pot_here", "_law_some_here"] (defScope s__law_of) := ⟨rfl, rfl, rfl, by decide +kernel, rfl, by decide +kernel, by decide +kernel⟩
theorem c__law_of (F : FunD Γ.K "_law_of" "_law_of" (defArgs s__law_of) (defBody s__law_of) (defScope s__law_of) [] [] f fd) (hm : mg "_law_of" = some (.ref f)) (M : Bn mg) (C_law_take : Cal Γ P w mg base "_law_take" 1 2 [] f__law_take) : Cal Γ P w mg base "_law_of" 2 2 [] f__law_of :=
  have S := sc__law_of
  calOf F hm sc__law_of rfl (fun cdv A outer s H E z hg hr =>
  z_seq (z_ret (qidx (qv 1) (qcall C_law_take 0 hr (by decide) hg takesCx (ac (qv 0) (ac (qblt blen M (ac (qv 1) an)) an)))))
  z_nil) (bind0 F fun _ _ _ _ _ _ us hl => match us, hl with | [_, _], _ => rfl)
theorem sc__law_drawn_fraction : FnScope N__law_drawn_fraction ["_law_pot_here"] (defScope s__law_drawn_fraction) := ⟨rfl, rfl, rfl, by decide +kernel, rfl, by decide +kernel, by decide +kernel⟩
theorem c__law_drawn_fraction (F : FunD Γ.K "_law_drawn_fraction" "_law_drawn_fraction" (defArgs s__law_drawn_fraction) (defBody s__law_drawn_fraction) (defScope s__law_drawn_fraction) [] [] f fd) (hm : mg "_law_drawn_fraction" = some (.ref f)) (M : Bn mg) (C_law_take : Cal Γ P w mg base "_law_take" 1 2 [] f__law_take) (C_law_of : Cal Γ P w mg base "_law_of" 2 2 [] f__law_of) (C_law_fraction : Cal Γ P w mg base "_law_fraction" 2 2 [] f__law_fraction) : Cal Γ P w mg base "_law_drawn_fraction" 3 1 [] f__law_drawn_fraction :=
  have S := sc__law_drawn_fraction
  calOf F hm sc__law_drawn_fraction rfl (fun cdv A outer s H E z hg hr =>
  z_seq (sset 1 S.nd (qmul (qcall C_law_take 0 hr (by decide) hg takesCx (ac (qv 0) (ac (qcall C_law_of 0 hr (by decide) hg takesCx (ac (qv 0) (ac (z_frz (flst (ac z_int (ac z_int (ac z_int (ac z_int (ac (qpow z_int z_int) an))))))) an))) an))) (qcall C_law_of 0 hr (by decide) hg takesCx (ac (qv 0) (ac (z_frz (flst (ac z_int (ac z_int (ac (qneg z_int) an))))) an)))))
  (z_seq (z_ret (qcall C_law_fraction 0 hr (by decide) hg takesCx (ac (qv 1) (ac (qadd z_int (qcall C_law_take 0 hr (by decide) hg takesCx (ac (qv 0) (ac (qcall C_law_of 0 hr (by decide) hg takesCx (ac (qv 0) (ac (z_frz (flst (ac z_int (ac z_int (ac z_int (ac z_int (ac z_int an))))))) an))) an)))) an))))
  z_nil)) (bind0 F fun _ _ _ _ _ _ us hl => match us, hl with | [_], _ => rfl)
theorem sc__law_cells : FnScope N__law_cells ["_law_script", "_law_most"] (defScope s__law_cells) := ⟨rfl, rfl, rfl, by decide +kernel, rfl, by decide +kernel, by decide +kernel⟩
theorem c__law_cells (F : FunD Γ.K "_law_cells" "_law_cells" (defArgs s__law_cells) (defBody s__law_cells) (defScope s__law_cells) [] [] f fd) (hm : mg "_law_cells" = some (.ref f)) (M : Bn mg) : Cal Γ P w mg base "_law_cells" 1 2 [] f__law_cells :=
  have S := sc__law_cells
  calOf F hm sc__law_cells rfl (fun cdv A outer s H E z hg hr =>
  z_seq (z_ret (z_frz (flistRg M (qblt bmax M (ac z_int (ac (qblt bmin M (ac (qv 1) (ac (qblt blen M (ac (qv 0) an)) an))) an))))))
  z_nil) (bind0 F fun _ _ _ _ _ _ us hl => match us, hl with | [_, _], _ => rfl)
theorem sc__law_one_right : FnScope N__law_one_right ["_law_pot_here", "_law_some_here", "_law_weights"] (defScope s__law_one_right) := ⟨rfl, rfl, rfl, by decide +kernel, rfl, by decide +kernel, by decide +kernel⟩
theorem c__law_one_right (F : FunD Γ.K "_law_one_right" "_law_one_right" (defArgs s__law_one_right) (defBody s__law_one_right) (defScope s__law_one_right) [] [] f fd) (hm : mg "_law_one_right" = some (.ref f)) (M : Bn mg) (Ctotal : Cal Γ P w mg base "total" 5 2 [.non] f_total) (C_law_ones : Cal Γ P w mg base "_law_ones" 1 1 [] f__law_ones) (C_law_sum : Cal Γ P w mg base "_law_sum" 3 2 [] f__law_sum) (C_law_some : Cal Γ P w mg base "_law_some" 2 3 [] f__law_some) (C_law_gcd : Cal Γ P w mg base "_law_gcd" 1 1 [] f__law_gcd) (Cfraction : Cal Γ P w mg base "fraction" 3 2 [.int 1] f_fraction) : Cal Γ P w mg base "_law_one_right" 6 3 [] f__law_one_right :=
  have S := sc__law_one_right
  calOf F hm sc__law_one_right rfl (fun cdv A outer s H E z hg hr =>
  z_seq (par2 6 7 S.nd (sval' (qcall Ctotal 1 hr (by decide) hg takesCx (ac (qv 1) (ac (qv 2) an))) (sval' (qcall C_law_ones 0 hr (by decide) hg takesCx (ac (qblt blen M (ac (qv 1) an)) an)) s_nil)))
  (z_seq (z_if (PW.pt (w_or (tcmp (cne hr) (qblt (brepr hr hg) M (ac (qv 6) an)) (qblt (brepr hr hg) M (ac (qcall C_law_sum 0 hr (by decide) hg takesCx (ac (qv 1) (ac (qv 2) an))) an))) (pw_or1 (tcmp (cne hr) (qblt (brepr hr hg) M (ac (qcall Ctotal 0 hr (by decide) hg takesCx (ac (qv 1) an)) an)) (qblt (brepr hr hg) M (ac (qcall C_law_sum 0 hr (by decide) hg takesCx (ac (qv 1) (ac (qv 7) an))) an)))))) (z_seq (z_ret z_bl)
  z_nil) z_nil)
  (z_seq (sset 3 S.nd (qcall C_law_some 0 hr (by decide) hg takesCx (ac (qv 0) (ac (z_frz (flistRg M (qblt blen M (ac (qv 1) an)))) (ac (qblt blen M (ac (qv 1) an)) an)))))
  (z_seq (par2 8 9 S.nd (sval' (z_frz (fcomp S.nd (own := [("_law_at", 10)]) (iseq (qv 3)) (by rfl) (fun _ _ _ _ _ _ => gname 10 S.nd) (fun _ _ _ _ _ _ => tno) (fun _ _ _ _ _ _ => qidx (qv 1) (qv 10)))) (sval' (z_frz (fcomp S.nd (own := [("_law_at", 10)]) (iseq (qv 3)) (by rfl) (fun _ _ _ _ _ _ => gname 10 S.nd) (fun _ _ _ _ _ _ => tno) (fun _ _ _ _ _ _ => qidx (qv 2) (qv 10)))) s_nil)))
  (z_seq (z_if (PW.pt (w_or (tcmp (cne hr) (qcall Ctotal 1 hr (by decide) hg takesCx (ac (qblt btuple M (ac (qv 8) an)) (ac (qblt btuple M (ac (qv 9) an)) an))) (qv 6)) (pw_or1 (tcmp (cne hr) (qcall Ctotal 1 hr (by decide) hg takesCx (ac (qv 1) (ac (qv 7) an))) (qcall Ctotal 0 hr (by decide) hg takesCx (ac (qv 1) an)))))) (z_seq (z_ret z_bl)
  z_nil) z_nil)
  (z_seq (sset 4 S.nd (qblt btuple M (ac (z_frz (fcomp S.nd (own := [("_law_weight", 11)]) (iseq (qv 2)) (by rfl) (fun _ _ _ _ _ _ => gname 11 S.nd) (fun _ _ _ _ _ _ => tno) (fun _ _ _ _ _ _ => qtup (ac (qfdiv (qmul z_int (qidx (qv 11) z_int)) (qcall C_law_gcd 0 hr (by decide) hg takes0 (ac (z_frz (flst (ac z_int (ac (qidx (qv 11) z_int) an)))) an))) (ac (qfdiv (qidx (qv 11) z_int) (qcall C_law_gcd 0 hr (by decide) hg takes0 (ac (z_frz (flst (ac z_int (ac (qidx (qv 11) z_int) an)))) an))) an))))) an)))
  (z_seq (z_if (PW.pt (w_or (tcmp (cne hr) (qcall Ctotal 1 hr (by decide) hg takesCx (ac (qv 1) (ac (qv 4) an))) (qcall Ctotal 0 hr (by decide) hg takesCx (ac (qtup (ac (qv 6) (ac (qv 6) an))) an))) (pw_or1 (tcmp (cne hr) (qcall Ctotal 1 hr (by decide) hg takesCx (ac (qv 2) (ac (qv 1) an))) (qv 6))))) (z_seq (z_ret z_bl)
  z_nil) z_nil)
  (z_seq (sset 5 S.nd (qblt btuple M (ac (z_frz (fcomp S.nd (own := [("_law_one", 12), ("_law_its", 9)]) (izip M (ac (qv 1) (ac (qv 2) an))) (by rfl) (fun _ _ _ _ _ _ => gtuple (gscons (gname 12 S.nd) (gscons (gname 9 S.nd) z_gnil))) (fun _ _ _ _ _ _ => tno) (fun _ _ _ _ _ _ => qcall Cfraction 1 hr (by decide) hg takes0 (ac (qmul (qidx (qv 12) z_int) (qidx (qv 9) z_int)) (ac (qmul (qidx (qv 12) z_int) (qidx (qv 9) z_int)) an))))) an)))
  (z_seq (z_ret (z_and (qcmp (ceq hr) (qcall Ctotal 0 hr (by decide) hg takesCx (ac (qv 5) an)) (qv 6)) (pe_one (qcmp (ceq hr) (qcall Ctotal 0 hr (by decide) hg takesCx (ac (qadd (qv 1) (qblt btuple M (ac (z_frz (fcomp S.nd (own := [("_law_one", 12)]) (iseq (qv 1)) (by rfl) (fun _ _ _ _ _ _ => gname 12 S.nd) (fun _ _ _ _ _ _ => tno) (fun _ _ _ _ _ _ => qtup (ac (qneg (qidx (qv 12) z_int)) (ac (qidx (qv 12) z_int) an))))) an))) an)) (qtup (ac z_int (ac z_int an)))))))
  z_nil))))))))) (bind0 F fun _ _ _ _ _ _ us hl => match us, hl with | [_, _, _], _ => rfl)
theorem sc__law_right : FnScope N__law_right ["_law_pot_here"] (defScope s__law_right) := ⟨rfl, rfl, rfl, by decide +kernel, rfl, by decide +kernel, by decide +kernel⟩
theorem c__law_right (F : FunD Γ.K "_law_right" "_law_right" (defArgs s__law_right) (defBody s__law_right) (defScope s__law_right) [] [] f fd) (hm : mg "_law_right" = some (.ref f)) (M : Bn mg) (C_law_take : Cal Γ P w mg base "_law_take" 1 2 [] f__law_take) (C_law_of : Cal Γ P w mg base "_law_of" 2 2 [] f__law_of) (C_law_drawn_fraction : Cal Γ P w mg base "_law_drawn_fraction" 3 1 [] f__law_drawn_fraction) (C_law_fraction : Cal Γ P w mg base "_law_fraction" 2 2 [] f__law_fraction) (C_law_one_right : Cal Γ P w mg base "_law_one_right" 6 3 [] f__law_one_right) (Ctotal : Cal Γ P w mg base "total" 5 2 [.non] f_total) : Cal Γ P w mg base "_law_right" 7 1 [] f__law_right :=
  have S := sc__law_right
  calOf F hm sc__law_right rfl (fun cdv A outer s H E z hg hr =>
  z_seq (sfor ownsCx (irange M (ac z_int an)) (gname 1 S.nd) (z_seq (sset 2 S.nd (qcall C_law_take 0 hr (by decide) hg takesCx (ac (qv 0) (ac (qcall C_law_of 0 hr (by decide) hg takesCx (ac (qv 0) (ac (z_frz (flst (ac z_int (ac z_int (ac z_int an))))) an))) an))))
  (z_seq (sset 3 S.nd (qblt btuple M (ac (z_frz (fcomp S.nd (own := [("_law_turn", 6)]) (irange M (ac (qv 2) an)) (by rfl) (fun _ _ _ _ _ _ => gname 6 S.nd) (fun _ _ _ _ _ _ => tno) (fun _ _ _ _ _ _ => qcall C_law_drawn_fraction 0 hr (by decide) hg takes0 (ac (qv 0) an)))) an)))
  (z_seq (sset 4 S.nd (qblt btuple M (ac (z_frz (fcomp S.nd (own := [("_law_turn", 6)]) (irange M (ac (qv 2) an)) (by rfl) (fun _ _ _ _ _ _ => gname 6 S.nd) (fun _ _ _ _ _ _ => tno) (fun _ _ _ _ _ _ => qcall C_law_fraction 0 hr (by decide) hg takes0 (ac (qsub (qcall C_law_take 0 hr (by decide) hg takes0 (ac (qv 0) (ac z_int an))) z_int) (ac (qadd z_int (qcall C_law_take 0 hr (by decide) hg takes0 (ac (qv 0) (ac z_int an)))) an))))) an)))
  (z_seq (z_if (z_notT (tval (qcall C_law_one_right 0 hr (by decide) hg takesCx (ac (qv 0) (ac (qv 3) (ac (qv 4) an)))))) (z_seq (z_ret z_bl)
  z_nil) z_nil)
  (z_seq (sset 5 S.nd (qcall C_law_take 0 hr (by decide) hg takesCx (ac (qv 0) (ac (qadd (qv 2) z_int) an))))
  (z_seq (z_if (tcmp (cne hr) (qcall Ctotal 0 hr (by decide) hg takesCx (ac (qtup (ac (qcall Ctotal 0 hr (by decide) hg takesCx (ac (qslice (qv 3) o_none (o_some (qv 5))) an)) (ac (qcall Ctotal 0 hr (by decide) hg takesCx (ac (qslice (qv 3) (o_some (qv 5)) o_none) an)) an))) an)) (qcall Ctotal 0 hr (by decide) hg takesCx (ac (qv 3) an))) (z_seq (z_ret z_bl)
  z_nil) z_nil)
  z_nil)))))))
  (z_seq (z_ret (z_and (qcmp (ceq hr) (qcall Ctotal 0 hr (by decide) hg takesCx (ac (qtup an) an)) (qtup (ac z_int (ac z_int an)))) (pe_one (qcmp (ceq hr) (qcall Ctotal 1 hr (by decide) hg takesCx (ac (qtup an) (ac (qtup an) an))) (qtup (ac z_int (ac z_int an)))))))
  z_nil)) (bind0 F fun _ _ _ _ _ _ us hl => match us, hl with | [_], _ => rfl)
theorem sc_law : FnScope N_law ["_law_script"] (defScope s_law) := ⟨rfl, rfl, rfl, by decide +kernel, rfl, by decide +kernel, by decide +kernel⟩
theorem c_law (F : FunD Γ.K "law" "law" (defArgs s_law) (defBody s_law) (defScope s_law) [] [] f fd) (hm : mg "law" = some (.ref f)) (M : Bn mg) (C_law_cells : Cal Γ P w mg base "_law_cells" 1 2 [] f__law_cells) (C_law_right : Cal Γ P w mg base "_law_right" 7 1 [] f__law_right) (C_law_pot : Cal Γ P w mg base "_law_pot" 1 2 [] f__law_pot) : Cal Γ P w mg base "law" 8 1 [] f_law :=
  have S := sc_law
  calOf F hm sc_law rfl (fun cdv A outer s H E z hg hr =>
  z_seq (z_ret (qblt ball M (ac (z_frz (fcomp S.nd (own := [("_law_place", 1)]) (iseq (qcall C_law_cells 0 hr (by decide) hg takesCx (ac (qv 0) (ac z_int an)))) (by rfl) (fun _ _ _ _ _ _ => gname 1 S.nd) (fun _ _ _ _ _ _ => tno) (fun _ _ _ _ _ _ => qcall C_law_right 0 hr (by decide) hg takes0 (ac (qcall C_law_pot 0 hr (by decide) hg takes0 (ac (qv 0) (ac (qv 1) an))) an)))) an)))
  z_nil) (bind0 F fun _ _ _ _ _ _ us hl => match us, hl with | [_], _ => rfl)
theorem okLaw (F : FunD Γ.K "law" "law" (defArgs s_law) (defBody s_law) (defScope s_law) [] [] f fd) (M : Bn mg) (C_law_cells : Cal Γ P w mg base "_law_cells" 1 2 [] f__law_cells) (C_law_right : Cal Γ P w mg base "_law_right" 7 1 [] f__law_right) (C_law_pot : Cal Γ P w mg base "_law_pot" 1 2 [] f__law_pot) : FnG P w Γ.K mg base 8 f fd ["_law_script"] (spZ Γ 1 f_law) :=
  have S := sc_law
  FunD.okZ F sc_law rfl (fun cdv A outer s H E z hg hr =>
  z_seq (z_ret (qblt ball M (ac (z_frz (fcomp S.nd (own := [("_law_place", 1)]) (iseq (qcall C_law_cells 0 hr (by decide) hg takesCx (ac (qv 0) (ac z_int an)))) (by rfl) (fun _ _ _ _ _ _ => gname 1 S.nd) (fun _ _ _ _ _ _ => tno) (fun _ _ _ _ _ _ => qcall C_law_right 0 hr (by decide) hg takes0 (ac (qcall C_law_pot 0 hr (by decide) hg takes0 (ac (qv 0) (ac (qv 1) an))) an)))) an)))
  z_nil)
end
end Z

set_option Elab.async false
set_option linter.all false
set_option maxRecDepth 100000
set_option maxHeartbeats 2000000
namespace Z
open PySem PySem.Spec PyProof.Rows L2 RZ
/-! the head -/
def d_is_integer : He.DefD := ⟨("is_integer", none), "is_integer", "is_integer", defArgs s_is_integer, defBody s_is_integer, defScope s_is_integer, [.non, .non], []⟩
def d_is_tuple : He.DefD := ⟨("is_tuple", none), "is_tuple", "is_tuple", defArgs s_is_tuple, defBody s_is_tuple, defScope s_is_tuple, [.non], []⟩
def d_common : He.DefD := ⟨("common", none), "common", "common", defArgs s_common, defBody s_common, defScope s_common, [], []⟩
def d_cut : He.DefD := ⟨("cut", none), "cut", "cut", defArgs s_cut, defBody s_cut, defScope s_cut, [], []⟩
def d_is_fraction : He.DefD := ⟨("is_fraction", none), "is_fraction", "is_fraction", defArgs s_is_fraction, defBody s_is_fraction, defScope s_is_fraction, [], []⟩
def d_are_fractions : He.DefD := ⟨("are_fractions", none), "are_fractions", "are_fractions", defArgs s_are_fractions, defBody s_are_fractions, defScope s_are_fractions, [.non], []⟩
def d_plus : He.DefD := ⟨("plus", none), "plus", "plus", defArgs s_plus, defBody s_plus, defScope s_plus, [], []⟩
def d_times : He.DefD := ⟨("times", none), "times", "times", defArgs s_times, defBody s_times, defScope s_times, [], []⟩
def d_weighed : He.DefD := ⟨("weighed", none), "weighed", "weighed", defArgs s_weighed, defBody s_weighed, defScope s_weighed, [], []⟩
def d_fraction : He.DefD := ⟨("fraction", none), "fraction", "fraction", defArgs s_fraction, defBody s_fraction, defScope s_fraction, [.int 1], []⟩
def d_total : He.DefD := ⟨("total", none), "total", "total", defArgs s_total, defBody s_total, defScope s_total, [.non], []⟩
def d__law_pot : He.DefD := ⟨("_law_pot", none), "_law_pot", "_law_pot", defArgs s__law_pot, defBody s__law_pot, defScope s__law_pot, [], []⟩
def d__law_take : He.DefD := ⟨("_law_take", none), "_law_take", "_law_take", defArgs s__law_take, defBody s__law_take, defScope s__law_take, [], []⟩
def d__law_ones : He.DefD := ⟨("_law_ones", none), "_law_ones", "_law_ones", defArgs s__law_ones, defBody s__law_ones, defScope s__law_ones, [], []⟩
def d__law_gcd : He.DefD := ⟨("_law_gcd", none), "_law_gcd", "_law_gcd", defArgs s__law_gcd, defBody s__law_gcd, defScope s__law_gcd, [], []⟩
def d__law_fraction : He.DefD := ⟨("_law_fraction", none), "_law_fraction", "_law_fraction", defArgs s__law_fraction, defBody s__law_fraction, defScope s__law_fraction, [], []⟩
def d__law_sum : He.DefD := ⟨("_law_sum", none), "_law_sum", "_law_sum", defArgs s__law_sum, defBody s__law_sum, defScope s__law_sum, [], []⟩
def d__law_some : He.DefD := ⟨("_law_some", none), "_law_some", "_law_some", defArgs s__law_some, defBody s__law_some, defScope s__law_some, [], []⟩
def d__law_of : He.DefD := ⟨("_law_of", none), "_law_of", "_law_of", defArgs s__law_of, defBody s__law_of, defScope s__law_of, [], []⟩
def d__law_drawn_fraction : He.DefD := ⟨("_law_drawn_fraction", none), "_law_drawn_fraction", "_law_drawn_fraction", defArgs s__law_drawn_fraction, defBody s__law_drawn_fraction, defScope s__law_drawn_fraction, [], []⟩
def d__law_cells : He.DefD := ⟨("_law_cells", none), "_law_cells", "_law_cells", defArgs s__law_cells, defBody s__law_cells, defScope s__law_cells, [], []⟩
def d__law_one_right : He.DefD := ⟨("_law_one_right", none), "_law_one_right", "_law_one_right", defArgs s__law_one_right, defBody s__law_one_right, defScope s__law_one_right, [], []⟩
def d__law_right : He.DefD := ⟨("_law_right", none), "_law_right", "_law_right", defArgs s__law_right, defBody s__law_right, defScope s__law_right, [], []⟩
def d_law : He.DefD := ⟨("law", none), "law", "law", defArgs s_law, defBody s_law, defScope s_law, [], []⟩
def fnD : List He.DefD := [d_is_integer, d_is_tuple, d_common, d_cut, d_is_fraction, d_are_fractions, d_plus, d_times, d_weighed, d_fraction, d_total, d__law_pot, d__law_take, d__law_ones, d__law_gcd, d__law_fraction, d__law_sum, d__law_some, d__law_of, d__law_drawn_fraction, d__law_cells, d__law_one_right, d__law_right, d_law]
def faD : List He.Fa := [.free "abs", .free "all", .free "any", .free "bool", .free "dict", .free "enumerate", .free "int", .free "isinstance", .free "len", .free "list", .free "max", .free "min", .free "range", .free "repr", .free "set", .free "sorted", .free "str", .free "sum", .free "tuple", .free "zip", .glo "is_integer", .glo "is_tuple", .glo "common", .glo "cut", .glo "is_fraction", .glo "are_fractions", .glo "plus", .glo "times", .glo "weighed", .glo "fraction", .glo "total", .glo "_law_pot", .glo "_law_take", .glo "_law_ones", .glo "_law_gcd", .glo "_law_fraction", .glo "_law_sum", .glo "_law_some", .glo "_law_of", .glo "_law_drawn_fraction", .glo "_law_cells", .glo "_law_one_right", .glo "_law_right", .glo "law"]
def csD : List (Str × D) := [("PAIR", .int 2), ("NOUGHT", .tup [.int 0, .int 1]), ("ONE", .tup [.int 1, .int 1])]
theorem facts {P : Program} {w : World} {Γ : Gm} {h : Heap} {mg : Str → Option Value} {fl : Addr} (X : Γ.K.In h) (G : h.Ns mainGlobals mg) (hfa : mg ("law" : Str) = some (.ref fl)) (c : SaysZ faD fnD csD Γ.K) :
    ∃ fd : FuncData, (∀ (s : Shared) (v : Value), BindsTo s fd ⟨[v], []⟩ [("_law_script", v)]) ∧ ∀ base : Heap, Γ.K.In base → base.Ns mainGlobals mg → FnG P w Γ.K mg base 8 fl fd ["_law_script"] (spZ Γ 1 f_law) := by
  have M : Bn mg := by
    intro x hx
    have key : ∀ y ∈ [("abs" : Str), ("all" : Str), ("any" : Str), ("bool" : Str), ("dict" : Str), ("enumerate" : Str), ("int" : Str), ("isinstance" : Str), ("len" : Str), ("list" : Str), ("max" : Str), ("min" : Str), ("range" : Str), ("repr" : Str), ("set" : Str), ("sorted" : Str), ("str" : Str), ("sum" : Str), ("tuple" : Str), ("zip" : Str)], mg y = none := by
      intro y hy
      simp only [List.mem_cons, List.not_mem_nil, or_false] at hy
      rcases hy with rfl | rfl | rfl | rfl | rfl | rfl | rfl | rfl | rfl | rfl | rfl | rfl | rfl | rfl | rfl | rfl | rfl | rfl | rfl | rfl
      · exact He.free_ok X G (c.d.fact 0 (f := .free "abs") rfl)
      · exact He.free_ok X G (c.d.fact 1 (f := .free "all") rfl)
      · exact He.free_ok X G (c.d.fact 2 (f := .free "any") rfl)
      · exact He.free_ok X G (c.d.fact 3 (f := .free "bool") rfl)
      · exact He.free_ok X G (c.d.fact 4 (f := .free "dict") rfl)
      · exact He.free_ok X G (c.d.fact 5 (f := .free "enumerate") rfl)
      · exact He.free_ok X G (c.d.fact 6 (f := .free "int") rfl)
      · exact He.free_ok X G (c.d.fact 7 (f := .free "isinstance") rfl)
      · exact He.free_ok X G (c.d.fact 8 (f := .free "len") rfl)
      · exact He.free_ok X G (c.d.fact 9 (f := .free "list") rfl)
      · exact He.free_ok X G (c.d.fact 10 (f := .free "max") rfl)
      · exact He.free_ok X G (c.d.fact 11 (f := .free "min") rfl)
      · exact He.free_ok X G (c.d.fact 12 (f := .free "range") rfl)
      · exact He.free_ok X G (c.d.fact 13 (f := .free "repr") rfl)
      · exact He.free_ok X G (c.d.fact 14 (f := .free "set") rfl)
      · exact He.free_ok X G (c.d.fact 15 (f := .free "sorted") rfl)
      · exact He.free_ok X G (c.d.fact 16 (f := .free "str") rfl)
      · exact He.free_ok X G (c.d.fact 17 (f := .free "sum") rfl)
      · exact He.free_ok X G (c.d.fact 18 (f := .free "tuple") rfl)
      · exact He.free_ok X G (c.d.fact 19 (f := .free "zip") rfl)
    refine key x ?_
    simp only [bns, List.mem_cons, List.not_mem_nil, or_false] at hx ⊢
    rcases hx with h | h | h | h | h | h | h | h | h | h | h | h | h | h | h | h | h | h | h | h <;> simp [h]
  obtain ⟨fd_is_integer, F_is_integer⟩ := c.d.def_ 0 (d := d_is_integer) rfl
  have m_is_integer := He.glo_ok X G (c.d.fact 20 (f := .glo "is_integer") rfl)
  obtain ⟨fd_is_tuple, F_is_tuple⟩ := c.d.def_ 1 (d := d_is_tuple) rfl
  have m_is_tuple := He.glo_ok X G (c.d.fact 21 (f := .glo "is_tuple") rfl)
  obtain ⟨fd_common, F_common⟩ := c.d.def_ 2 (d := d_common) rfl
  have m_common := He.glo_ok X G (c.d.fact 22 (f := .glo "common") rfl)
  obtain ⟨fd_cut, F_cut⟩ := c.d.def_ 3 (d := d_cut) rfl
  have m_cut := He.glo_ok X G (c.d.fact 23 (f := .glo "cut") rfl)
  obtain ⟨fd_is_fraction, F_is_fraction⟩ := c.d.def_ 4 (d := d_is_fraction) rfl
  have m_is_fraction := He.glo_ok X G (c.d.fact 24 (f := .glo "is_fraction") rfl)
  obtain ⟨fd_are_fractions, F_are_fractions⟩ := c.d.def_ 5 (d := d_are_fractions) rfl
  have m_are_fractions := He.glo_ok X G (c.d.fact 25 (f := .glo "are_fractions") rfl)
  obtain ⟨fd_plus, F_plus⟩ := c.d.def_ 6 (d := d_plus) rfl
  have m_plus := He.glo_ok X G (c.d.fact 26 (f := .glo "plus") rfl)
  obtain ⟨fd_times, F_times⟩ := c.d.def_ 7 (d := d_times) rfl
  have m_times := He.glo_ok X G (c.d.fact 27 (f := .glo "times") rfl)
  obtain ⟨fd_weighed, F_weighed⟩ := c.d.def_ 8 (d := d_weighed) rfl
  have m_weighed := He.glo_ok X G (c.d.fact 28 (f := .glo "weighed") rfl)
  obtain ⟨fd_fraction, F_fraction⟩ := c.d.def_ 9 (d := d_fraction) rfl
  have m_fraction := He.glo_ok X G (c.d.fact 29 (f := .glo "fraction") rfl)
  obtain ⟨fd_total, F_total⟩ := c.d.def_ 10 (d := d_total) rfl
  have m_total := He.glo_ok X G (c.d.fact 30 (f := .glo "total") rfl)
  obtain ⟨fd__law_pot, F__law_pot⟩ := c.d.def_ 11 (d := d__law_pot) rfl
  have m__law_pot := He.glo_ok X G (c.d.fact 31 (f := .glo "_law_pot") rfl)
  obtain ⟨fd__law_take, F__law_take⟩ := c.d.def_ 12 (d := d__law_take) rfl
  have m__law_take := He.glo_ok X G (c.d.fact 32 (f := .glo "_law_take") rfl)
  obtain ⟨fd__law_ones, F__law_ones⟩ := c.d.def_ 13 (d := d__law_ones) rfl
  have m__law_ones := He.glo_ok X G (c.d.fact 33 (f := .glo "_law_ones") rfl)
  obtain ⟨fd__law_gcd, F__law_gcd⟩ := c.d.def_ 14 (d := d__law_gcd) rfl
  have m__law_gcd := He.glo_ok X G (c.d.fact 34 (f := .glo "_law_gcd") rfl)
  obtain ⟨fd__law_fraction, F__law_fraction⟩ := c.d.def_ 15 (d := d__law_fraction) rfl
  have m__law_fraction := He.glo_ok X G (c.d.fact 35 (f := .glo "_law_fraction") rfl)
  obtain ⟨fd__law_sum, F__law_sum⟩ := c.d.def_ 16 (d := d__law_sum) rfl
  have m__law_sum := He.glo_ok X G (c.d.fact 36 (f := .glo "_law_sum") rfl)
  obtain ⟨fd__law_some, F__law_some⟩ := c.d.def_ 17 (d := d__law_some) rfl
  have m__law_some := He.glo_ok X G (c.d.fact 37 (f := .glo "_law_some") rfl)
  obtain ⟨fd__law_of, F__law_of⟩ := c.d.def_ 18 (d := d__law_of) rfl
  have m__law_of := He.glo_ok X G (c.d.fact 38 (f := .glo "_law_of") rfl)
  obtain ⟨fd__law_drawn_fraction, F__law_drawn_fraction⟩ := c.d.def_ 19 (d := d__law_drawn_fraction) rfl
  have m__law_drawn_fraction := He.glo_ok X G (c.d.fact 39 (f := .glo "_law_drawn_fraction") rfl)
  obtain ⟨fd__law_cells, F__law_cells⟩ := c.d.def_ 20 (d := d__law_cells) rfl
  have m__law_cells := He.glo_ok X G (c.d.fact 40 (f := .glo "_law_cells") rfl)
  obtain ⟨fd__law_one_right, F__law_one_right⟩ := c.d.def_ 21 (d := d__law_one_right) rfl
  have m__law_one_right := He.glo_ok X G (c.d.fact 41 (f := .glo "_law_one_right") rfl)
  obtain ⟨fd__law_right, F__law_right⟩ := c.d.def_ 22 (d := d__law_right) rfl
  have m__law_right := He.glo_ok X G (c.d.fact 42 (f := .glo "_law_right") rfl)
  obtain ⟨fd_law, F_law⟩ := c.d.def_ 23 (d := d_law) rfl
  have m_law := He.glo_ok X G (c.d.fact 43 (f := .glo "law") rfl)
  have GPAIR := c.con X G (x := "PAIR") 0 rfl
  have GNOUGHT := c.con X G (x := "NOUGHT") 1 rfl
  have GONE := c.con X G (x := "ONE") 2 rfl
  have e := hfa.symm.trans m_law
  cases e
  have bnd := FunD.bindsA (ps := ["_law_script"]) F_law fun _ _ _ _ _ _ us hl => match us, hl with | [_], _ => rfl
  refine ⟨fd_law, fun s v => bnd s [v] rfl, fun base _ _ => ?_⟩
  have Cis_integer : Cal Γ P w mg base "is_integer" 1 3 [.non, .non] f_is_integer := c_is_integer F_is_integer m_is_integer M
  have Cis_tuple : Cal Γ P w mg base "is_tuple" 1 3 [.non] f_is_tuple := c_is_tuple F_is_tuple m_is_tuple M
  have Ccommon : Cal Γ P w mg base "common" 1 2 [] f_common := c_common F_common m_common M
  have Ccut : Cal Γ P w mg base "cut" 2 2 [] f_cut := c_cut F_cut m_cut M Ccommon
  have Cis_fraction : Cal Γ P w mg base "is_fraction" 2 1 [] f_is_fraction := c_is_fraction F_is_fraction m_is_fraction M Cis_tuple Cis_integer Ccommon GPAIR
  have Care_fractions : Cal Γ P w mg base "are_fractions" 3 2 [.non] f_are_fractions := c_are_fractions F_are_fractions m_are_fractions M Cis_fraction
  have Cplus : Cal Γ P w mg base "plus" 3 2 [] f_plus := c_plus F_plus m_plus M Ccut
  have Ctimes : Cal Γ P w mg base "times" 3 2 [] f_times := c_times F_times m_times M Ccut
  have Cweighed : Cal Γ P w mg base "weighed" 4 2 [] f_weighed := c_weighed F_weighed m_weighed M Cplus Ctimes GNOUGHT
  have Cfraction : Cal Γ P w mg base "fraction" 3 2 [.int 1] f_fraction := c_fraction F_fraction m_fraction M Cis_integer Ccut
  have Ctotal : Cal Γ P w mg base "total" 5 2 [.non] f_total := c_total F_total m_total M Care_fractions Cweighed GONE
  have C_law_pot : Cal Γ P w mg base "_law_pot" 1 2 [] f__law_pot := c__law_pot F__law_pot m__law_pot M
  have C_law_take : Cal Γ P w mg base "_law_take" 1 2 [] f__law_take := c__law_take F__law_take m__law_take M
  have C_law_ones : Cal Γ P w mg base "_law_ones" 1 1 [] f__law_ones := c__law_ones F__law_ones m__law_ones M
  have C_law_gcd : Cal Γ P w mg base "_law_gcd" 1 1 [] f__law_gcd := c__law_gcd F__law_gcd m__law_gcd M
  have C_law_fraction : Cal Γ P w mg base "_law_fraction" 2 2 [] f__law_fraction := c__law_fraction F__law_fraction m__law_fraction M C_law_gcd
  have C_law_sum : Cal Γ P w mg base "_law_sum" 3 2 [] f__law_sum := c__law_sum F__law_sum m__law_sum M C_law_fraction
  have C_law_some : Cal Γ P w mg base "_law_some" 2 3 [] f__law_some := c__law_some F__law_some m__law_some M C_law_take
  have C_law_of : Cal Γ P w mg base "_law_of" 2 2 [] f__law_of := c__law_of F__law_of m__law_of M C_law_take
  have C_law_drawn_fraction : Cal Γ P w mg base "_law_drawn_fraction" 3 1 [] f__law_drawn_fraction := c__law_drawn_fraction F__law_drawn_fraction m__law_drawn_fraction M C_law_take C_law_of C_law_fraction
  have C_law_cells : Cal Γ P w mg base "_law_cells" 1 2 [] f__law_cells := c__law_cells F__law_cells m__law_cells M
  have C_law_one_right : Cal Γ P w mg base "_law_one_right" 6 3 [] f__law_one_right := c__law_one_right F__law_one_right m__law_one_right M Ctotal C_law_ones C_law_sum C_law_some C_law_gcd Cfraction
  have C_law_right : Cal Γ P w mg base "_law_right" 7 1 [] f__law_right := c__law_right F__law_right m__law_right M C_law_take C_law_of C_law_drawn_fraction C_law_fraction C_law_one_right Ctotal
  exact okLaw F_law M C_law_cells C_law_right C_law_pot
abbrev RR : PySem.W.OpenRow := PySem.W.OpenLaw.row PySem.Challenge.rw_tiesums_k02_whole_sums_of_fractions
abbrev hkD : PySem.W.Hook := hookZ 5 faD fnD csD
def obD (s : PySem.W.SharedT) : AlZ := obsZ 5 faD fnD csD (HandSHeadRun.getT s)
theorem obD_eq (s : PySem.W.SharedT) : obD s = hkD.obs s.abs := obsZ_eq (HandSHeadRun.getT_eq s)
def looseD : List Str := ["is_integer", "is_tuple", "common", "cut", "is_fraction", "are_fractions", "plus", "times", "weighed", "fraction", "total", "_law_pot", "_law_take", "_law_ones", "_law_gcd", "_law_fraction", "_law_sum", "_law_some", "_law_of", "_law_drawn_fraction", "_law_cells", "_law_one_right", "_law_right", "TieError", "BadNumber", "BadFractions", "PAIR", "NOUGHT", "ONE"]
theorem runD (w : World) : HandSHeadRun.RunEq RR (PySem.W.view RR.prog [33]) hkD obD 20000 looseD w := by
  intro os
  kernel_rfl
end Z


open PySem PySem.W PySem.Calls PyProof.Rows
set_option maxHeartbeats 0 in
theorem PySem.Challenge.cw_tiesums_k02_whole_sums_of_fractions_holds : PySem.Challenge.rw_tiesums_k02_whole_sums_of_fractions.Holds := by
  w_on; o_law
  refine HandSHeadRun.head_any (r := OpenLaw.row PySem.Challenge.rw_tiesums_k02_whole_sums_of_fractions) (q := view (OpenLaw.row PySem.Challenge.rw_tiesums_k02_whole_sums_of_fractions).prog [33]) (H := Z.hkD) (ob := Z.obD) (M := 20000) (loose := Z.looseD) (d := HandSHeadRun.topDef (OpenLaw.row PySem.Challenge.rw_tiesums_k02_whole_sums_of_fractions).prog 33) (kwd := []) Z.obD_eq
    (by kernel_rfl) (fun s => by kernel_rfl) Z.runD (by kernel_rfl) (by kernel_rfl) (by kernel_rfl) (by rfl) (by first | assumption | decide +kernel) (by decide +kernel) ⟨rfl, rfl, rfl, rfl, rfl, by decide +kernel⟩ ?hw ?hc
  case hw => w_witness2
  case hc =>
    refine Z.walkG (l := PySem.Challenge.rw_tiesums_k02_whole_sums_of_fractions) (n := 63) (k := 8) (x := "_law_script") (φ := Z.f_law) rfl (by decide) (by kernel_rfl) ⟨rfl, by decide, by decide⟩ Z.right_law ?F
    intro w mg fa h Y G hmg0
    obtain ⟨K, KX, c⟩ := Y
    have hmg : mg ("law" : PySem.Str) = some (.ref fa) := by
      have e : (HandSHeadRun.topDef (OpenLaw.row PySem.Challenge.rw_tiesums_k02_whole_sums_of_fractions).prog 33).name = ("law" : PySem.Str) := by kernel_rfl
      rw [← e]
      exact hmg0
    obtain ⟨fd, hb, hF⟩ := Z.facts (P := (PySem.Challenge.rw_tiesums_k02_whole_sums_of_fractions).prog) (w := w) (Γ := ⟨K, fun _ => 0⟩) KX G hmg c
    exact ⟨⟨K, fun _ => 0⟩, fd, KX, hb, hF⟩

