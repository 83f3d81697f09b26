import PyProof.Rows.All
import Wide.All
import OpenK.AllK
import Wide.FinOn
import HandS.ForMost
import HandS.Exc
import HandS.ExcOwn
import HandS.WordsExc
import HandS.Defaults
import HandS.IsInst
import HandS.Conv
import HandS.Gcd
import HandS.Wide
import HandS.Style
import HandS.Flow
import HandS.Zip
import HandS.CallLocal
import HandS.TupLe
import HandS.TupMul
import HandS.TupAny
import HandS.WideBits
import HandS.Deep
import KE.GoesEnum
import KE.GoesMore
import HandS.Iter
import HandS.Comp
import HandS.Head0
import HandS.Head1
import HandS.Head2
import HandS.Head3
import HandS.HeadEnd
import HandS.HeadHook1
import HandS.HeadHook2
import HandS.EndBits
import PySem.Challenge.RW_lamplooks_k03_whole_looks_by_own_fractio
set_option Elab.async false
set_option linter.all false
set_option maxRecDepth 100000
set_option maxHeartbeats 4000000
namespace L3
open PySem PySem.Spec PyProof.Rows L2

/-! values as data: tuples, lists that nobody changes any more, the script, dicts that nobody changes, defs by number, cells (lists that are changed) by number -/
inductive D where
  | non
  | bl (b : Bool)
  | int (i : Int)
  | str (x : Str)
  | tup (ds : List D)
  | lst (ds : List D)
  | scr (ns : List Int)
  | dic (ks : List Key) (ds : List D)
  | fn (i : Nat)
  | exn (c : Nat) (ds : List D)
  | ref (n : Nat)

/-- an exception that flies: its class, what it was made with -/
structure XD where
  cls : Nat
  args : List D
/-- a cell: a list that may be changed, one that is only read for now, one that is gone -/
inductive Cell where
  | lst (ds : List D)
  | lck (ds : List D)
  | dead
abbrev G := List Cell
inductive R (a : Type) where
  | ok (x : a) (g : G)
  | err (x : XD) (g : G)
  | bot
def M (a : Type) : Type := G → R a
def ret {a : Type} (x : a) : M a := fun g => .ok x g
def bnd {a b : Type} (m : M a) (k : a → M b) : M b := fun g => match m g with
  | .ok x g' => k x g'
  | .err x g' => .err x g'
  | .bot => .bot
def bot {a : Type} : M a := fun _ => .bot
def rse {a : Type} (x : XD) : M a := fun g => .err x g
def ofO {a : Type} (o : Option a) : M a := match o with
  | some x => ret x
  | none => bot
@[simp] theorem bnd_ret {a b : Type} (x : a) (k : a → M b) : bnd (ret x) k = k x := rfl
@[simp] theorem bnd_bot {a b : Type} (k : a → M b) : bnd (bot : M a) k = bot := rfl
@[simp] theorem ret_at {a : Type} (x : a) (g : G) : (ret x : M a) g = .ok x g := rfl
theorem bnd_assoc {a b c : Type} (m : M a) (k : a → M b) (l : b → M c) : bnd (bnd m k) l = bnd m fun x => bnd (k x) l := by
  funext g
  unfold bnd
  cases m g <;> rfl
theorem bnd_eta {a : Type} (m : M a) : bnd m ret = m := by
  funext g
  unfold bnd
  cases m g <;> rfl
theorem bnd_ok {a b : Type} {m : M a} {k : a → M b} {g g' : G} {x : a} (h : m g = .ok x g') : bnd m k g = k x g' := by
  unfold bnd
  rw [h]

/-! ### what stands for what -/
structure RC where
  K : PySem.W.Frag
  fa : Nat → Option Addr
  lv : Addr → Prop
  m : List Addr
  H : Hp
/-- a list that nobody can change: locked, or of the written part -/
def SqF (K : PySem.W.Frag) (H : Hp) (a : Addr) (xs : List V) : Prop :=
  (∃ o, H a = some (.frz o (.lst xs))) ∨
    ∃ (o : Obj) (its : Array Value) (n : Nat), K.lookup a = some o ∧ o.cls = .type "list" ∧ o.dict = none ∧ o.data = .seq its n ∧ its.size ≤ sizeLine ∧ Vals xs its.toList
theorem SqF.sqL {K : PySem.W.Frag} {H : Hp} {a : Addr} {xs : List V} (h : SqF K H a xs) : SqL K H a xs := by
  rcases h with ⟨o, h⟩ | h
  · exact .inl (.inr ⟨o, h⟩)
  · exact .inr h
mutual
def Rep (C : RC) : D → V → Prop
  | .non, v => v = .non
  | .bl b, v => v = .bl b
  | .int i, v => v = .int i
  | .str x, v => v = .str x
  | .tup ds, v => ∃ a vs, v = .ref a ∧ SqT C.K C.H a vs ∧ RepL C ds vs
  | .lst ds, v => ∃ a vs, v = .ref a ∧ C.H a = some (.lst vs) ∧ ¬ C.lv a ∧ RepL C ds vs
  | .scr ns, v => ∃ a, v = .ref a ∧ SqF C.K C.H a (ns.map V.int)
  | .dic ks ds, v => ∃ a vs, v = .ref a ∧ C.H a = some (.dK (ks.zip vs)) ∧ ks.length = vs.length ∧ RepL C ds vs
  | .fn i, v => ∃ a, v = .ref a ∧ C.fa i = some a
  | .exn _ _, _ => False
  | .ref n, v => ∃ a, v = .ref a ∧ C.m[n]? = some a
def RepL (C : RC) : List D → List V → Prop
  | [], vs => vs = []
  | d :: ds, vs => ∃ v vs', vs = v :: vs' ∧ Rep C d v ∧ RepL C ds vs'
end
theorem RepL.nil {C : RC} {vs : List V} : RepL C [] vs ↔ vs = [] := by simp only [RepL]
theorem RepL.cons {C : RC} {d : D} {ds : List D} {vs : List V} : RepL C (d :: ds) vs ↔ ∃ v vs', vs = v :: vs' ∧ Rep C d v ∧ RepL C ds vs' := by simp only [RepL]
theorem RepL.length {C : RC} : ∀ {ds : List D} {vs : List V}, RepL C ds vs → vs.length = ds.length
  | [], vs, h => by rw [RepL.nil] at h; subst h; rfl
  | d :: ds, vs, h => by
    rw [RepL.cons] at h
    obtain ⟨v, vs', rfl, _, h⟩ := h
    rw [List.length_cons, List.length_cons, RepL.length h]
theorem RepL.get {C : RC} : ∀ {ds : List D} {vs : List V} {i : Nat} {d : D}, RepL C ds vs → ds[i]? = some d → ∃ v, vs[i]? = some v ∧ Rep C d v
  | [], _, _, _, _, e => by simp at e
  | d :: ds, vs, 0, d', h, e => by
    rw [RepL.cons] at h
    obtain ⟨v, vs', rfl, r, h⟩ := h
    simp at e
    subst e
    exact ⟨v, rfl, r⟩
  | d :: ds, vs, i + 1, d', h, e => by
    rw [RepL.cons] at h
    obtain ⟨v, vs', rfl, r, h⟩ := h
    obtain ⟨w, h1, h2⟩ := RepL.get h (i := i) (by simpa using e)
    exact ⟨w, by simpa using h1, h2⟩
theorem RepL.get' {C : RC} {ds : List D} {vs : List V} {i : Nat} {v : V} (h : RepL C ds vs) (e : vs[i]? = some v) : ∃ d, ds[i]? = some d ∧ Rep C d v := by
  have hl := h.length
  obtain ⟨hi, _⟩ := List.getElem?_eq_some_iff.mp e
  have hi2 : i < ds.length := by omega
  obtain ⟨w, h1, h2⟩ := h.get (List.getElem?_eq_getElem hi2)
  rw [e] at h1
  cases h1
  exact ⟨_, List.getElem?_eq_getElem hi2, h2⟩
theorem RepL.append {C : RC} : ∀ {ds es : List D} {vs ws : List V}, RepL C ds vs → RepL C es ws → RepL C (ds ++ es) (vs ++ ws)
  | [], _, vs, _, h, h2 => by rw [RepL.nil] at h; subst h; exact h2
  | d :: ds, es, vs, ws, h, h2 => by
    rw [RepL.cons] at h
    obtain ⟨v, vs', rfl, r, h⟩ := h
    rw [List.cons_append, List.cons_append, RepL.cons]
    exact ⟨v, _, rfl, r, RepL.append h h2⟩
theorem RepL.set {C : RC} {d : D} {v : V} (r : Rep C d v) : ∀ {ds : List D} {vs : List V} (i : Nat), RepL C ds vs → RepL C (ds.set i d) (vs.set i v)
  | [], vs, i, h => by rw [RepL.nil] at h; subst h; rw [List.set_nil, List.set_nil, RepL.nil]
  | d' :: ds, vs, 0, h => by
    rw [RepL.cons] at h
    obtain ⟨w, vs', rfl, _, h⟩ := h
    rw [List.set_cons_zero, List.set_cons_zero, RepL.cons]
    exact ⟨v, _, rfl, r, h⟩
  | d' :: ds, vs, i + 1, h => by
    rw [RepL.cons] at h
    obtain ⟨w, vs', rfl, r', h⟩ := h
    rw [List.set_cons_succ, List.set_cons_succ, RepL.cons]
    exact ⟨w, _, rfl, r', RepL.set r i h⟩
theorem RepL.take {C : RC} : ∀ {ds : List D} {vs : List V} (n : Nat), RepL C ds vs → RepL C (ds.take n) (vs.take n)
  | _, _, 0, _ => by rw [List.take_zero, List.take_zero, RepL.nil]
  | [], vs, n + 1, h => by rw [RepL.nil] at h; subst h; rw [List.take_nil, List.take_nil, RepL.nil]
  | d :: ds, vs, n + 1, h => by
    rw [RepL.cons] at h
    obtain ⟨v, vs', rfl, r, h⟩ := h
    rw [List.take_succ_cons, List.take_succ_cons, RepL.cons]
    exact ⟨v, _, rfl, r, RepL.take n h⟩
theorem RepL.drop {C : RC} : ∀ {ds : List D} {vs : List V} (n : Nat), RepL C ds vs → RepL C (ds.drop n) (vs.drop n)
  | _, _, 0, h => h
  | [], vs, n + 1, h => by rw [RepL.nil] at h; subst h; rw [List.drop_nil, List.drop_nil, RepL.nil]
  | d :: ds, vs, n + 1, h => by
    rw [RepL.cons] at h
    obtain ⟨v, vs', rfl, r, h⟩ := h
    rw [List.drop_succ_cons, List.drop_succ_cons]
    exact RepL.drop n h
theorem RepL.ints {C : RC} : ∀ {ns : List Int}, RepL C (ns.map D.int) (ns.map V.int)
  | [] => by simp only [List.map_nil, RepL]
  | n :: ns => by
    rw [List.map_cons, List.map_cons, RepL.cons]
    exact ⟨_, _, rfl, by simp only [Rep], RepL.ints⟩
theorem RepL.reverse {C : RC} : ∀ {ds : List D} {vs : List V}, RepL C ds vs → RepL C ds.reverse vs.reverse
  | [], vs, h => by rw [RepL.nil] at h; subst h; simp only [List.reverse_nil, RepL]
  | d :: ds, vs, h => by
    rw [RepL.cons] at h
    obtain ⟨v, vs', rfl, r, h⟩ := h
    rw [List.reverse_cons, List.reverse_cons]
    refine RepL.append (RepL.reverse h) ?_
    rw [RepL.cons]
    exact ⟨v, [], rfl, r, by rw [RepL.nil]⟩
theorem RepL.eraseIdx {C : RC} : ∀ {ds : List D} {vs : List V} (n : Nat), RepL C ds vs → RepL C (ds.eraseIdx n) (vs.eraseIdx n)
  | [], vs, n, h => by rw [RepL.nil] at h; subst h; rw [List.eraseIdx_nil, List.eraseIdx_nil, RepL.nil]
  | d :: ds, vs, 0, h => by
    rw [RepL.cons] at h
    obtain ⟨v, vs', rfl, r, h⟩ := h
    exact h
  | d :: ds, vs, n + 1, h => by
    rw [RepL.cons] at h
    obtain ⟨v, vs', rfl, r, h⟩ := h
    rw [List.eraseIdx_cons_succ, List.eraseIdx_cons_succ, RepL.cons]
    exact ⟨v, _, rfl, r, RepL.eraseIdx n h⟩

/-! ### states -/
/-- the addresses of the cells that may be changed -/
def lv (g : G) (m : List Addr) : Addr → Prop := fun a => ∃ (n : Nat) (ds : List D), g[n]? = some (.lst ds) ∧ m[n]? = some a
/-- the fixed part: the written part, the defs' addresses -/
structure FX where
  K : PySem.W.Frag
  fa : Nat → Option Addr
  /-- addresses set aside: no value shows them -/
  rs : Addr → Prop := fun _ => False
abbrev FX.rc (F : FX) (H : Hp) (g : G) (m : List Addr) : RC := ⟨F.K, F.fa, fun a => lv g m a ∨ F.rs a, m, H⟩
/-- .. for reading alone -/
abbrev FX.rd (F : FX) (H : Hp) (m : List Addr) : RC := ⟨F.K, F.fa, fun _ => False, m, H⟩
structure SR (F : FX) (H : Hp) (g : G) (m : List Addr) : Prop where
  len : m.length = g.length
  inj : ∀ (i j : Nat) (a : Addr), m[i]? = some a → m[j]? = some a → i = j
  lst : ∀ (n : Nat) (ds : List D), g[n]? = some (.lst ds) → ∃ a vs, m[n]? = some a ∧ H a = some (.lst vs) ∧ RepL (F.rc H g m) ds vs
  lck : ∀ (n : Nat) (ds : List D), g[n]? = some (.lck ds) → ∃ a vs, m[n]? = some a ∧ H a = some (.lst vs) ∧ RepL (F.rc H g m) ds vs
  has : ∀ (n : Nat) (a : Addr), m[n]? = some a → ∃ o, H a = some o
  rsv : ∀ a, F.rs a → (∃ o, H a = some o) ∧ ∀ i : Nat, m[i]? ≠ some a
/-- what may happen: what is known and may not be changed stands; the cells' addresses stay -/
structure Ext (H : Hp) (g : G) (m : List Addr) (H' : Hp) (g' : G) (m' : List Addr) : Prop where
  pre : ∃ t, m' = m ++ t
  keep : ∀ a o, H a = some o → ¬ lv g m a → H' a = some o ∧ ¬ lv g' m' a
  still : ∀ a o, H a = some o → ∃ o', H' a = some o'
  newm : ∀ (i : Nat) (a : Addr), m'[i]? = some a → m[i]? = none → H a = none
theorem Ext.refl (H : Hp) (g : G) (m : List Addr) : Ext H g m H g m := ⟨⟨[], by simp⟩, fun _ _ h n => ⟨h, n⟩, fun _ o h => ⟨o, h⟩, fun i a h1 h2 => by rw [h1] at h2; cases h2⟩
theorem Ext.trans {H H1 H2 : Hp} {g g1 g2 : G} {m m1 m2 : List Addr} (a : Ext H g m H1 g1 m1) (b : Ext H1 g1 m1 H2 g2 m2) : Ext H g m H2 g2 m2 := by
  refine ⟨?_, fun x o h n => ?_, fun x o h => ?_, fun i x h1 h2 => ?_⟩
  · obtain ⟨t, e⟩ := a.pre
    obtain ⟨u, e2⟩ := b.pre
    exact ⟨t ++ u, by rw [e2, e, List.append_assoc]⟩
  · obtain ⟨h1, n1⟩ := a.keep x o h n
    exact b.keep x o h1 n1
  · obtain ⟨o1, h1⟩ := a.still x o h
    exact b.still x o1 h1
  · cases q : m1[i]? with
    | some y =>
      obtain ⟨t, e⟩ := b.pre
      have : m2[i]? = some y := by
        rw [e, List.getElem?_append_left (List.getElem?_eq_some_iff.mp q).1]
        exact q
      rw [h1] at this
      cases this
      exact a.newm i x q h2
    | none =>
      have h3 := b.newm i x h1 q
      cases q2 : H x with
      | none => rfl
      | some o =>
        obtain ⟨o', h4⟩ := a.still x o q2
        rw [h3] at h4
        cases h4
theorem Ext.rsv {F : FX} {H H' : Hp} {g g' : G} {m m' : List Addr} (e : Ext H g m H' g' m') (r : ∀ a, F.rs a → (∃ o, H a = some o) ∧ ∀ i : Nat, m[i]? ≠ some a) : ∀ a, F.rs a → (∃ o, H' a = some o) ∧ ∀ i : Nat, m'[i]? ≠ some a := fun a h => by
  obtain ⟨⟨o, h1⟩, n1⟩ := r a h
  refine ⟨e.still a o h1, fun i h2 => ?_⟩
  cases q : m[i]? with
  | none =>
    have := e.newm i a h2 q
    rw [h1] at this
    cases this
  | some y =>
    obtain ⟨t, et⟩ := e.pre
    rw [et, List.getElem?_append_left (List.getElem?_eq_some_iff.mp q).1] at h2
    exact n1 i h2
theorem SR.nlv {F : FX} {H : Hp} {g : G} {m : List Addr} (s : SR F H g m) {a : Addr} (h : F.rs a) : ¬ lv g m a := by
  rintro ⟨n, ds, _, h2⟩
  exact (s.rsv a h).2 n h2
theorem Ext.at_ {H H' : Hp} {g g' : G} {m m' : List Addr} (e : Ext H g m H' g' m') {n : Nat} {a : Addr} (h : m[n]? = some a) : m'[n]? = some a := by
  obtain ⟨t, rfl⟩ := e.pre
  obtain ⟨hl, _⟩ := List.getElem?_eq_some_iff.mp h
  rw [List.getElem?_append_left hl]
  exact h
theorem Ext.sqT0 {K : PySem.W.Frag} {H H' : Hp} {g g' : G} {m m' : List Addr} (e : Ext H g m H' g' m') (hl : ∀ a, lv g m a → ∃ vs, H a = some (.lst vs)) {a : Addr} {vs : List V} (h : SqT K H a vs) : SqT K H' a vs := by
  have nl : ∀ o, H a = some o → (∀ xs, o ≠ .lst xs) → ¬ lv g m a := fun o ho hn => by
    intro z
    obtain ⟨xs, h4⟩ := hl a z
    rw [ho] at h4
    exact hn xs (Option.some.inj h4)
  rcases h with (h | ⟨o, h⟩) | h
  · exact .inl (.inl (e.keep a _ h (nl _ h fun _ z => by cases z)).1)
  · exact .inl (.inr ⟨o, (e.keep a _ h (nl _ h fun _ z => by cases z)).1⟩)
  · exact .inr h
theorem Ext.sqL {K : PySem.W.Frag} {H H' : Hp} {g g' : G} {m m' : List Addr} (e : Ext H g m H' g' m') {a : Addr} {vs : List V} (h : SqL K H a vs) (n : ¬ lv g m a) : SqL K H' a vs := by
  rcases h with (h | ⟨o, h⟩) | h
  · exact .inl (.inl (e.keep a _ h n).1)
  · exact .inl (.inr ⟨o, (e.keep a _ h n).1⟩)
  · exact .inr h
end L3
set_option Elab.async false
set_option linter.all false
set_option maxRecDepth 100000
set_option maxHeartbeats 4000000
namespace L3
open PySem PySem.Spec PyProof.Rows L2

theorem lv_lst {F : FX} {H : Hp} {g : G} {m : List Addr} (s : SR F H g m) {a : Addr} (h : lv g m a) : ∃ vs, H a = some (.lst vs) := by
  obtain ⟨n, ds, h1, h2⟩ := h
  obtain ⟨a', xs, h3, h4, _⟩ := s.lst n ds h1
  rw [h2] at h3
  cases h3
  exact ⟨xs, h4⟩
theorem Ext.sqT {K : PySem.W.Frag} {H H' : Hp} {g g' : G} {m m' : List Addr} {F : FX} (e : Ext H g m H' g' m') (s : SR F H g m) {a : Addr} {vs : List V} (h : SqT K H a vs) : SqT K H' a vs := e.sqT0 (fun _ z => lv_lst s z) h
theorem nlv_of0 {H : Hp} {g : G} {m : List Addr} (hl : ∀ a, lv g m a → ∃ vs, H a = some (.lst vs)) {a : Addr} {o : HO} (h : H a = some o) (n : ∀ xs, o ≠ .lst xs) : ¬ lv g m a := fun z => by
  obtain ⟨xs, e⟩ := hl a z
  rw [h] at e
  exact n xs (Option.some.inj e)
mutual
theorem Rep.ext0 {F : FX} {H H' : Hp} {g g' : G} {m m' : List Addr} (e : Ext H g m H' g' m') (s : ∀ a, lv g m a → ∃ vs, H a = some (.lst vs)) : ∀ {d : D} {v : V}, Rep (F.rc H g m) d v → Rep (F.rc H' g' m') d v
  | .non, v, h => by simp only [Rep] at h ⊢; exact h
  | .bl b, v, h => by simp only [Rep] at h ⊢; exact h
  | .int i, v, h => by simp only [Rep] at h ⊢; exact h
  | .str x, v, h => by simp only [Rep] at h ⊢; exact h
  | .tup ds, v, h => by
    simp only [Rep] at h ⊢
    obtain ⟨a, vs, rfl, h1, h2⟩ := h
    exact ⟨a, vs, rfl, e.sqT0 s h1, RepL.ext0 e s h2⟩
  | .lst ds, v, h => by
    simp only [Rep] at h ⊢
    obtain ⟨a, vs, rfl, h1, h2, h3⟩ := h
    obtain ⟨k1, k2⟩ := e.keep a _ h1 fun z => h2 (.inl z)
    exact ⟨a, vs, rfl, k1, fun z => z.elim k2 fun z => h2 (.inr z), RepL.ext0 e s h3⟩
  | .scr ns, v, h => by
    simp only [Rep] at h ⊢
    obtain ⟨a, rfl, h1⟩ := h
    refine ⟨a, rfl, ?_⟩
    rcases h1 with ⟨o, h1⟩ | h1
    · exact .inl ⟨o, (e.keep a _ h1 (nlv_of0 s h1 fun _ z => by cases z)).1⟩
    · exact .inr h1
  | .dic ks ds, v, h => by
    simp only [Rep] at h ⊢
    obtain ⟨a, vs, rfl, h1, h2, h3⟩ := h
    exact ⟨a, vs, rfl, (e.keep a _ h1 (nlv_of0 s h1 fun _ z => by cases z)).1, h2, RepL.ext0 e s h3⟩
  | .fn i, v, h => by simp only [Rep] at h ⊢; exact h
  | .exn c ds, v, h => by simp only [Rep] at h
  | .ref n, v, h => by
    simp only [Rep] at h ⊢
    obtain ⟨a, rfl, h1⟩ := h
    exact ⟨a, rfl, e.at_ h1⟩
theorem RepL.ext0 {F : FX} {H H' : Hp} {g g' : G} {m m' : List Addr} (e : Ext H g m H' g' m') (s : ∀ a, lv g m a → ∃ vs, H a = some (.lst vs)) : ∀ {ds : List D} {vs : List V}, RepL (F.rc H g m) ds vs → RepL (F.rc H' g' m') ds vs
  | [], vs, h => by rw [RepL.nil] at h ⊢; exact h
  | d :: ds, vs, h => by
    rw [RepL.cons] at h ⊢
    obtain ⟨v, vs', rfl, h1, h2⟩ := h
    exact ⟨v, vs', rfl, Rep.ext0 e s h1, RepL.ext0 e s h2⟩
end
theorem nlv_of {F : FX} {H : Hp} {g : G} {m : List Addr} (s : SR F H g m) {a : Addr} {o : HO} (h : H a = some o) (n : ∀ xs, o ≠ .lst xs) : ¬ lv g m a := nlv_of0 (fun _ z => lv_lst s z) h n
theorem Rep.ext {F : FX} {H H' : Hp} {g g' : G} {m m' : List Addr} (e : Ext H g m H' g' m') (s : SR F H g m) {d : D} {v : V} (r : Rep (F.rc H g m) d v) : Rep (F.rc H' g' m') d v := Rep.ext0 e (fun _ z => lv_lst s z) r
theorem RepL.ext {F : FX} {H H' : Hp} {g g' : G} {m m' : List Addr} (e : Ext H g m H' g' m') (s : SR F H g m) {d : List D} {v : List V} (r : RepL (F.rc H g m) d v) : RepL (F.rc H' g' m') d v := RepL.ext0 e (fun _ z => lv_lst s z) r

/-- slots -/
abbrev Env3 := List (Option D)
structure RE (F : FX) (H : Hp) (g : G) (m : List Addr) (σ : L2.St) (env : Env3) : Prop where
  len : σ.length = env.length
  at_ : ∀ (i : Nat) (d : D), env[i]? = some (some d) → ∃ v, σ[i]? = some (some v) ∧ Rep (F.rc H g m) d v
theorem RE.ext {F : FX} {H H' : Hp} {g g' : G} {m m' : List Addr} {σ : L2.St} {env : Env3} (e : Ext H g m H' g' m') (s : SR F H g m) (r : RE F H g m σ env) : RE F H' g' m' σ env :=
  ⟨r.len, fun i d h => by
    obtain ⟨v, h1, h2⟩ := r.at_ i d h
    exact ⟨v, h1, h2.ext e s⟩⟩
theorem RE.set {F : FX} {H : Hp} {g : G} {m : List Addr} {σ : L2.St} {env : Env3} {d : D} {v : V} (r : RE F H g m σ env) (i : Nat) (h : Rep (F.rc H g m) d v) : RE F H g m (σ.set i (some v)) (env.set i (some d)) := by
  refine ⟨by rw [List.length_set, List.length_set, r.len], fun j d' e => ?_⟩
  by_cases hj : i = j
  · subst hj
    by_cases hi : i < env.length
    · rw [List.getElem?_set_self hi] at e
      cases e
      exact ⟨v, by rw [List.getElem?_set_self (by rw [r.len]; exact hi)], h⟩
    · rw [List.getElem?_eq_none (by rw [List.length_set]; omega)] at e
      cases e
  · rw [List.getElem?_set_ne hj] at e
    obtain ⟨w, h1, h2⟩ := r.at_ j d' e
    exact ⟨w, by rw [List.getElem?_set_ne hj]; exact h1, h2⟩

/-! ### exceptions -/
/-- the exceptions' classes: address, the field's name -/
structure XF where
  ca : Nat → Option Addr
  cf : Nat → Option Str
def RepX (Y : XF) (C : RC) (x : XD) (cls : Value) (dd : Option Addr) : Prop :=
  ∃ a, Y.ca x.cls = some a ∧ cls = .ref a ∧ ((x.args = [] ∧ Y.cf x.cls = none ∧ dd = none) ∨ ∃ f d v dx, x.args = [d] ∧ Y.cf x.cls = some f ∧ dd = some dx ∧ C.H dx = some (.xd [(f, v)]) ∧ Rep C d v)

/-! ### the wish behind a step -/
/-- all that stays through a def: the addresses, the exceptions, what is wanted of one -/
structure CF where
  F : FX
  Y : XF
  E : XK
def WP {α β : Type} (rep : RC → α → β → Prop) (c : CF) (H : Hp) (g : G) (m : List Addr) (r : R α) (Q : β → Hp → Prop) : Prop := match r with
  | .ok x g' => ∀ b H' m', SR c.F H' g' m' → Ext H g m H' g' m' → rep (c.F.rc H' g' m') x b → Q b H'
  | .err x g' => ∀ cls dd H' m', SR c.F H' g' m' → Ext H g m H' g' m' → RepX c.Y (c.F.rc H' g' m') x cls dd → c.E cls dd H'
  | .bot => False
section
variable {α β γ δ : Type} {rep : RC → α → β → Prop} {rep1 : RC → γ → δ → Prop} {c : CF} {H H1 : Hp} {g g1 : G} {m m1 : List Addr} {Q Q' : β → Hp → Prop}
theorem WP.shift {r : R α} (e : Ext H g m H1 g1 m1) (h : WP rep c H g m r Q) : WP rep c H1 g1 m1 r Q := by
  cases r with
  | ok x g' => exact fun b H' m' s e' r => h b H' m' s (e.trans e') r
  | err x g' => exact fun cls dd H' m' s e' r => h cls dd H' m' s (e.trans e') r
  | bot => exact h
theorem WP.imp {r : R α} (h : WP rep c H g m r Q) (q : ∀ b H1, Q b H1 → Q' b H1) : WP rep c H g m r Q' := by
  cases r with
  | ok x g' => exact fun b H' m' s e' r => q _ _ (h b H' m' s e' r)
  | err x g' => exact h
  | bot => exact h
theorem WP.bnd {ma : M γ} {k : γ → M α} (h : WP rep c H g m (bnd ma k g) Q) :
    WP rep1 c H g m (ma g) fun b1 H1 => ∃ g1 m1 x, SR c.F H1 g1 m1 ∧ Ext H g m H1 g1 m1 ∧ rep1 (c.F.rc H1 g1 m1) x b1 ∧ WP rep c H1 g1 m1 (k x g1) Q := by
  unfold L3.bnd at h
  cases q : ma g with
  | ok x g1 =>
    rw [q] at h
    intro b1 H1 m1 s e r
    exact ⟨g1, m1, x, s, e, r, WP.shift e h⟩
  | err x g1 =>
    rw [q] at h
    exact h
  | bot =>
    rw [q] at h
    exact h
theorem WP.ret {x : α} {b : β} (s : SR c.F H g m) (r : rep (c.F.rc H g m) x b) (h : WP rep c H g m (L3.ret x g) Q) : Q b H := h b H m s (Ext.refl H g m) r
end
/-- a transformer from a function -/
def tG {α β : Type} (rep : RC → α → β → Prop) (c : CF) (f : Env3 → M α) : L2.St → Hp → (β → Hp → Prop) → Prop := fun σ H Q =>
  ∃ env g m, RE c.F H g m σ env ∧ SR c.F H g m ∧ WP rep c H g m (f env g) Q
def RepB : RC → Bool → Bool → Prop := fun _ b b' => b' = b
abbrev tE (c : CF) (f : Env3 → M D) : TE := tG Rep c f
abbrev tT (c : CF) (f : Env3 → M Bool) : TT := tG RepB c f
abbrev tA (c : CF) (f : Env3 → M (List D)) : TA := tG RepL c f
section
variable {α β γ δ : Type} {rep : RC → α → β → Prop} {rep1 : RC → γ → δ → Prop} {c : CF} {σ : L2.St} {H : Hp} {Q : β → Hp → Prop}
theorem tG.bnd {f : Env3 → M γ} {k : Env3 → γ → M α} (h : tG rep c (fun env => bnd (f env) (k env)) σ H Q) :
    tG rep1 c f σ H fun b1 H1 => ∃ env g1 m1 x, RE c.F H1 g1 m1 σ env ∧ SR c.F H1 g1 m1 ∧ rep1 (c.F.rc H1 g1 m1) x b1 ∧ WP rep c H1 g1 m1 (k env x g1) Q := by
  obtain ⟨env, g, m, r, s, h⟩ := h
  refine ⟨env, g, m, r, s, ?_⟩
  have h2 := WP.bnd (rep1 := rep1) h
  refine h2.imp fun b1 H1 h3 => ?_
  obtain ⟨g1, m1, x, s1, e1, r1, h4⟩ := h3
  exact ⟨env, g1, m1, x, r.ext e1 s, s1, r1, h4⟩
/-- go on from a state -/
theorem tG.of {f : Env3 → M α} {env : Env3} {g : G} {m : List Addr} (r : RE c.F H g m σ env) (s : SR c.F H g m) (h : WP rep c H g m (f env g) Q) : tG rep c f σ H Q := ⟨env, g, m, r, s, h⟩
end
theorem PE_imp {X : Cx} {e : Expr} {t t' : TE} (h : PE X e t) (i : ∀ σ H Q, t' σ H Q → t σ H Q) : PE X e t' := ⟨fun pins s σ H Q I q => h.run pins s σ H Q I (i σ H Q q)⟩
theorem PT_imp {X : Cx} {e : Expr} {t t' : TT} (h : PT X e t) (i : ∀ σ H Q, t' σ H Q → t σ H Q) : PT X e t' := ⟨fun pins s σ H Q I q => h.run pins s σ H Q I (i σ H Q q)⟩
theorem PW_imp {X : Cx} {e : Expr} {t t' : TT} (h : PW X e t) (i : ∀ σ H Q, t' σ H Q → t σ H Q) : PW X e t' := ⟨fun wh pins s σ H Q I q => h.run wh pins s σ H Q I (i σ H Q q)⟩
theorem PA_imp {X : Cx} {e : List Expr} {t t' : TA} (h : PA X e t) (i : ∀ σ H Q, t' σ H Q → t σ H Q) : PA X e t' := ⟨fun pos pins s σ H Q I q => h.run pos pins s σ H Q I (i σ H Q q)⟩
theorem PS_imp {X : Cx} {e : Stmt} {t t' : TS} (h : PS X e t) (i : ∀ D σ H, t' D σ H → t D σ H) : PS X e t' := ⟨fun pins s σ H D I q => h.run pins s σ H D I (i D σ H q)⟩
theorem PSs_imp {X : Cx} {e : List Stmt} {t t' : TS} (h : PSs X e t) (i : ∀ D σ H, t' D σ H → t D σ H) : PSs X e t' := ⟨fun pins s σ H D I q => h.run pins s σ H D I (i D σ H q)⟩
theorem OpR_imp {X : Cx} {f : Value → Value → Sem Value} {r r' : R2} (h : OpR X f r) (i : ∀ x y H Q, r' x y H Q → r x y H Q) : OpR X f r' := fun pins s σ H x y v u Q I rx ry q => h pins s σ H x y v u Q I rx ry (i x y H Q q)
theorem CallR_imp {X : Cx} {f : Value} {r r' : List V → Hp → VK → Prop} (h : CallR X f r) (i : ∀ xs H Q, r' xs H Q → r xs H Q) : CallR X f r' := fun pins s σ H xs us Q I rx q => h pins s σ H xs us Q I rx (i xs H Q q)

/-! ### making an object -/
/-- a new object that is no cell -/
theorem SR.new {F : FX} {H : Hp} {g : G} {m : List Addr} {p : Addr} {o : HO} (s : SR F H g m) (hp : H p = none) : SR F (upd H p o) g m ∧ Ext H g m (upd H p o) g m := by
  have ne : ∀ a o', H a = some o' → upd H p o a = some o' := fun a o' h => by
    rw [upd_ne (ne_of_none h hp)]
    exact h
  have e : Ext H g m (upd H p o) g m := ⟨⟨[], by simp⟩, fun a o' h n => ⟨ne a o' h, n⟩, fun a o' h => ⟨o', ne a o' h⟩, fun i a h1 h2 => by rw [h1] at h2; cases h2⟩
  refine ⟨⟨s.len, s.inj, fun n ds h => ?_, fun n ds h => ?_, fun n a h => ?_, e.rsv s.rsv⟩, e⟩
  · obtain ⟨a, vs, h1, h2, h3⟩ := s.lst n ds h
    exact ⟨a, vs, h1, ne _ _ h2, h3.ext e s⟩
  · obtain ⟨a, vs, h1, h2, h3⟩ := s.lck n ds h
    exact ⟨a, vs, h1, ne _ _ h2, h3.ext e s⟩
  · obtain ⟨o', h1⟩ := s.has n a h
    exact ⟨o', ne _ _ h1⟩
theorem SR.fresh {F : FX} {H : Hp} {g : G} {m : List Addr} {p : Addr} (s : SR F H g m) (hp : H p = none) : ¬ (lv g m p ∨ F.rs p) := fun z => by
  rcases z with z | z
  · obtain ⟨vs, h⟩ := lv_lst s z
    rw [hp] at h
    cases h
  · obtain ⟨⟨o, h⟩, _⟩ := s.rsv p z
    rw [hp] at h
    cases h
/-- a new cell -/
theorem SR.cell {F : FX} {H : Hp} {g : G} {m : List Addr} {p : Addr} {ds : List D} {vs : List V} (s : SR F H g m) (hp : H p = none) (r : RepL (F.rc H g m) ds vs) :
    SR F (upd H p (.lst vs)) (g ++ [.lst ds]) (m ++ [p]) ∧ Ext H g m (upd H p (.lst vs)) (g ++ [.lst ds]) (m ++ [p]) ∧ (m ++ [p])[g.length]? = some p := by
  have ne : ∀ a o', H a = some o' → upd H p (.lst vs) a = some o' := fun a o' h => by
    rw [upd_ne (ne_of_none h hp)]
    exact h
  have hl := s.len
  have e : Ext H g m (upd H p (.lst vs)) (g ++ [.lst ds]) (m ++ [p]) := by
    refine ⟨⟨[p], rfl⟩, fun a o' h n => ⟨ne a o' h, ?_⟩, fun a o' h => ⟨o', ne a o' h⟩, fun i a h1 h2 => ?_⟩
    rotate_left
    · have hi : ¬ i < m.length := fun hi => by
        rw [List.getElem?_eq_getElem hi] at h2
        cases h2
      rw [List.getElem?_append_right (by omega)] at h1
      cases hz : i - m.length with
      | zero =>
        rw [hz] at h1
        have : p = a := Option.some.inj h1
        rw [← this]
        exact hp
      | succ z =>
        rw [hz] at h1
        cases h1
    rintro ⟨k, es, h1, h2⟩
    by_cases hk : k < g.length
    · rw [List.getElem?_append_left hk] at h1
      rw [List.getElem?_append_left (by omega)] at h2
      exact n ⟨k, es, h1, h2⟩
    · rw [List.getElem?_append_right (by omega)] at h2
      have : p = a := by
        cases hz : k - m.length with
        | zero =>
          rw [hz] at h2
          exact Option.some.inj h2
        | succ z =>
          rw [hz] at h2
          cases h2
      subst this
      rw [hp] at h
      cases h
  have hp2 : (m ++ [p])[g.length]? = some p := by
    rw [← hl, List.getElem?_append_right (Nat.le_refl _), Nat.sub_self]
    rfl
  refine ⟨⟨by rw [List.length_append, List.length_append, hl]; rfl, fun i j a h1 h2 => ?_, fun n es h => ?_, fun n es h => ?_, fun n a h => ?_, e.rsv s.rsv⟩, e, hp2⟩
  · have key : ∀ i : Nat, (m ++ [p])[i]? = some a → (i < m.length ∧ m[i]? = some a) ∨ (i = m.length ∧ a = p) := fun i h => by
      by_cases hi : i < m.length
      · rw [List.getElem?_append_left hi] at h
        exact .inl ⟨hi, h⟩
      · rw [List.getElem?_append_right (by omega)] at h
        cases hz : i - m.length with
        | zero =>
          rw [hz] at h
          exact .inr ⟨by omega, (Option.some.inj h).symm⟩
        | succ z =>
          rw [hz] at h
          cases h
    rcases key i h1 with ⟨a1, b1⟩ | ⟨a1, b1⟩ <;> rcases key j h2 with ⟨a2, b2⟩ | ⟨a2, b2⟩
    · exact s.inj i j a b1 b2
    · obtain ⟨o, h⟩ := s.has i a b1
      rw [b2, hp] at h
      cases h
    · obtain ⟨o, h⟩ := s.has j a b2
      rw [b1, hp] at h
      cases h
    · omega
  · by_cases hk : n < g.length
    · rw [List.getElem?_append_left hk] at h
      obtain ⟨a, ws, h1, h2, h3⟩ := s.lst n es h
      exact ⟨a, ws, e.at_ h1, ne _ _ h2, h3.ext e s⟩
    · rw [List.getElem?_append_right (by omega)] at h
      have hn : n = g.length := by
        cases hz : n - g.length with
        | zero => omega
        | succ z =>
          rw [hz] at h
          cases h
      subst hn
      rw [Nat.sub_self] at h
      have : ds = es := by
        have h' : some (Cell.lst ds) = some (Cell.lst es) := h
        cases h'
        rfl
      subst this
      exact ⟨p, vs, hp2, upd_same, r.ext e s⟩
  · by_cases hk : n < g.length
    · rw [List.getElem?_append_left hk] at h
      obtain ⟨a, ws, h1, h2, h3⟩ := s.lck n es h
      exact ⟨a, ws, e.at_ h1, ne _ _ h2, h3.ext e s⟩
    · rw [List.getElem?_append_right (by omega)] at h
      cases hz : n - g.length with
      | zero =>
        rw [hz] at h
        cases h
      | succ z =>
        rw [hz] at h
        cases h
  · by_cases hi : n < m.length
    · rw [List.getElem?_append_left hi] at h
      obtain ⟨o, h1⟩ := s.has n a h
      exact ⟨o, ne _ _ h1⟩
    · rw [List.getElem?_append_right (by omega)] at h
      cases hz : n - m.length with
      | zero =>
        rw [hz] at h
        have : p = a := Option.some.inj h
        subst this
        exact ⟨_, upd_same⟩
      | succ z =>
        rw [hz] at h
        cases h
/-- a cell's list is changed -/
theorem SR.write {F : FX} {H : Hp} {g : G} {m : List Addr} {n : Nat} {a : Addr} {es ds : List D} {vs : List V} (s : SR F H g m) (hn : g[n]? = some (.lst es)) (ha : m[n]? = some a) (r : RepL (F.rc H g m) ds vs) :
    SR F (upd H a (.lst vs)) (g.set n (.lst ds)) m ∧ Ext H g m (upd H a (.lst vs)) (g.set n (.lst ds)) m := by
  have hlt : n < g.length := (List.getElem?_eq_some_iff.mp hn).1
  have la : lv g m a := ⟨n, es, hn, ha⟩
  have lvs : ∀ b, lv (g.set n (.lst ds)) m b → lv g m b := by
    rintro b ⟨k, fs, h1, h2⟩
    by_cases hk : n = k
    · subst hk
      exact ⟨n, es, hn, h2⟩
    · rw [List.getElem?_set_ne hk] at h1
      exact ⟨k, fs, h1, h2⟩
  have e : Ext H g m (upd H a (.lst vs)) (g.set n (.lst ds)) m := by
    refine ⟨⟨[], by simp⟩, fun b o h nb => ⟨?_, fun z => nb (lvs b z)⟩, fun b o h => ?_, fun i a h1 h2 => by rw [h1] at h2; cases h2⟩
    · rw [upd_ne (show b ≠ a from fun z => nb (by rw [z]; exact la))]
      exact h
    · by_cases hb : b = a
      · subst hb
        exact ⟨_, upd_same⟩
      · exact ⟨o, by rw [upd_ne hb]; exact h⟩
  refine ⟨⟨by rw [List.length_set, s.len], s.inj, fun k fs h => ?_, fun k fs h => ?_, fun k b h => ?_, e.rsv s.rsv⟩, e⟩
  · by_cases hk : n = k
    · subst hk
      rw [List.getElem?_set_self hlt] at h
      have : ds = fs := by cases h; rfl
      subst this
      exact ⟨a, vs, ha, upd_same, r.ext e s⟩
    · rw [List.getElem?_set_ne hk] at h
      obtain ⟨b, ws, h1, h2, h3⟩ := s.lst k fs h
      have nb : b ≠ a := fun z => hk (s.inj n k a ha (z ▸ h1))
      exact ⟨b, ws, h1, by rw [upd_ne nb]; exact h2, h3.ext e s⟩
  · by_cases hk : n = k
    · subst hk
      rw [List.getElem?_set_self hlt] at h
      cases h
    · rw [List.getElem?_set_ne hk] at h
      obtain ⟨b, ws, h1, h2, h3⟩ := s.lck k fs h
      have nb : b ≠ a := fun z => hk (s.inj n k a ha (z ▸ h1))
      exact ⟨b, ws, h1, by rw [upd_ne nb]; exact h2, h3.ext e s⟩
  · by_cases hb : b = a
    · subst hb
      exact ⟨_, upd_same⟩
    · obtain ⟨o, h1⟩ := s.has k b h
      exact ⟨o, by rw [upd_ne hb]; exact h1⟩
end L3
set_option Elab.async false
set_option linter.all false
set_option maxRecDepth 100000
set_option maxHeartbeats 4000000
namespace L3
open PySem PySem.Spec PyProof.Rows L2
theorem tuple_mul1 (l : Addr) (items : Array Value) (n : Nat) (dd : Option Addr) (sl : Array (Option Value)) (u : Tok) :
    Meets (Builtin.«tuple.__mul__» ⟨[.ref l, .int 1 u], []⟩) (fun _ R s => s.heap.get? l = some { cls := .type "tuple", dict := dd, data := .seq items n, slots := sl } ∧
      R (.ok (.ret (Value.ref l))) s) :=
  .of_wp fun prog w A R s h => by
    obtain ⟨hp, g, d, tk, os⟩ := s
    obtain ⟨hl, h⟩ := h
    have f1 := AutoSeq1.idx_int
    have c1 : (items.isEmpty || (1 : Int) == 1) = true := by rw [Bool.or_eq_true]; exact .inr (by decide)
    wp_walk using wpAny_loadPart' hl
    repeat (first
      | (refine wpAny_ite_false (decide_eq_false (by decide)) ?_; wp_walk using wpAny_loadPart' hl)
      | (refine wpAny_ite_true (decide_eq_true c1) ?_; wp_walk using wpAny_loadPart' hl))
    exact ⟨_, rfl, h⟩
theorem op_rep1 {X : Cx} : OpR X (binaryOp .Mult) (fun x y H Q => ∃ l xs, x = .ref l ∧ y = .int 1 ∧ SqT X.K H l xs ∧ Q (.ref l) H) := by
  intro pins s σ H x y v u Q I rx ry h
  obtain ⟨l, xs, rfl, rfl, hT, q⟩ := h
  cases rx
  obtain ⟨t, rfl⟩ := ry
  obtain ⟨its, r, ⟨⟨cls, dd, data, sl⟩, ho, hc, n, hd⟩, hs⟩ := I.tuple hT
  simp only at hc hd
  subst hc hd
  refine wpAny_binaryOp_repeat_ref (T := "tuple") (U := "int") (by decide) ⟨_, ho, rfl⟩ (fun s' => typeIs_int s' 1 t) noFill_tuple_mul F.fills_int_mul F.slot_int_rmul repeat_tuple F.slot_int_index.lookup
    (call_meets F.slot_int_rmul (typeIs_int s 1 t) F.entry_int_rmul (F.args_int_rmul_2 _ _) (int_rmul_tuple 1 t l its.toArray n dd sl)
      ⟨ho, rfl, ⟨_, ho, rfl⟩, call_meets F.slot_tuple_mul ⟨_, ho, rfl⟩ F.entry_tuple_mul (F.args_tuple_mul_2 _ _) (tuple_mul1 l its.toArray n dd sl t) ⟨ho, ?_⟩⟩)
  exact ⟨.ref l, H, I, rfl, q⟩
end L3
set_option Elab.async false
set_option linter.all false
set_option maxRecDepth 100000
set_option maxHeartbeats 4000000
namespace L3
open PySem PySem.Spec PyProof.Rows L2

/-- the longest list -/
def lim : Nat := 16777216
theorem lim_eq : lim = sizeLine := by rw [sizeLine_eq]; rfl
theorem le_lim {n : Nat} (h : n ≤ lim) : n ≤ sizeLine := by rw [← lim_eq]; exact h

/-! ### operators on data -/
def rD (c : CF) (f : D → D → M D) : R2 := fun x y H Q => ∃ g m d e, SR c.F H g m ∧ Rep (c.F.rc H g m) d x ∧ Rep (c.F.rc H g m) e y ∧ WP Rep c H g m (f d e g) Q
def rC (c : CF) (f : List D → M D) : List V → Hp → VK → Prop := fun xs H Q => ∃ g m ds, SR c.F H g m ∧ RepL (c.F.rc H g m) ds xs ∧ WP Rep c H g m (f ds g) Q
def rU1 (c : CF) (f : D → M D) : V → Hp → VK → Prop := fun x H Q => ∃ g m d, SR c.F H g m ∧ Rep (c.F.rc H g m) d x ∧ WP Rep c H g m (f d g) Q
theorem WP_ret {c : CF} {H : Hp} {g : G} {m : List Addr} {d : D} {v : V} {Q : VK} (s : SR c.F H g m) (h : WP Rep c H g m (ret d g) Q) (r : Rep (c.F.rc H g m) d v) : Q v H := h v H m s (Ext.refl H g m) r
/-- a new object p is the answer -/
theorem WP_new {c : CF} {H : Hp} {g : G} {m : List Addr} {d : D} {p : Addr} {o : HO} {Q : VK} (s : SR c.F H g m) (h : WP Rep c H g m (ret d g) Q) (hp : H p = none) (r : Rep (c.F.rc (upd H p o) g m) d (.ref p)) : Q (.ref p) (upd H p o) :=
  h _ _ m (s.new hp).1 (s.new hp).2 r
theorem Rep_tup_new {F : FX} {H : Hp} {g : G} {m : List Addr} {ds : List D} {vs : List V} {p : Addr} (s : SR F H g m) (hp : H p = none) (r : RepL (F.rc H g m) ds vs) : Rep (F.rc (upd H p (.tup vs)) g m) (.tup ds) (.ref p) := by
  simp only [Rep]
  exact ⟨p, vs, rfl, .inl (.inl upd_same), r.ext (s.new hp).2 s⟩
theorem Rep_lst_new {F : FX} {H : Hp} {g : G} {m : List Addr} {ds : List D} {vs : List V} {p : Addr} (s : SR F H g m) (hp : H p = none) (r : RepL (F.rc H g m) ds vs) : Rep (F.rc (upd H p (.lst vs)) g m) (.lst ds) (.ref p) := by
  simp only [Rep]
  exact ⟨p, vs, rfl, upd_same, s.fresh hp, r.ext (s.new hp).2 s⟩

def addD : D → D → M D
  | .int a, .int b => ret (.int (a + b))
  | .lst a, .lst b => if a.length + b.length ≤ lim then ret (.lst (a ++ b)) else bot
  | .tup a, .tup b => if a.length + b.length ≤ lim then ret (.tup (a ++ b)) else bot
  | .str a, .str b => if a.length + b.length ≤ lim then ret (.str (a ++ b)) else bot
  | _, _ => bot
def subD : D → D → M D
  | .int a, .int b => ret (.int (a - b))
  | _, _ => bot
def mulOk (a b : Int) : Bool := decide (a.natAbs.log2 + b.natAbs.log2 < 1000000)
theorem mulOk_of {a b : Int} (h : mulOk a b = true) : CMulW a b := by
  unfold mulOk at h
  unfold CMulW
  exact of_decide_eq_true h
def mulD : D → D → M D
  | .int a, .int b => if mulOk a b = true then ret (.int (a * b)) else bot
  | .lst a, .int k => if 0 ≤ k ∧ a.length * k.toNat ≤ lim ∧ k.toNat < 1000000 then ret (.lst (List.replicate k.toNat a).flatten) else bot
  | .tup a, .int k => if k = 1 then ret (.tup a) else if 2 ≤ k ∧ k ≤ 1000 ∧ a ≠ [] ∧ a.length ≤ 1000 then ret (.tup (List.replicate k.toNat a).flatten) else bot
  | _, _ => bot
def divOk (a b : Int) : Bool := decide (0 < b) && !Builtin.divisionGoesByPylong a b
def fdivD : D → D → M D
  | .int a, .int b => if divOk a b = true then ret (.int (a / b)) else bot
  | _, _ => bot
def modD : D → D → M D
  | .int a, .int b => if 0 < b then ret (.int (a % b)) else bot
  | _, _ => bot
def powD : D → D → M D
  | .int a, .int b => if 0 ≤ b ∧ b ≤ 1000000 ∧ a.natAbs < 2 ^ 64 then ret (.int (a ^ b.toNat)) else bot
  | _, _ => bot
theorem WP_bot {α β : Type} {rep : RC → α → β → Prop} {c : CF} {H : Hp} {g : G} {m : List Addr} {Q : β → Hp → Prop} (h : WP rep c H g m (bot g) Q) : False := h
section
variable {X : Cx} {c : CF}
theorem int_of {C : RC} {i : Int} {v : V} (h : Rep C (.int i) v) : v = .int i := by simpa only [Rep] using h
theorem bl_of {C : RC} {i : Bool} {v : V} (h : Rep C (.bl i) v) : v = .bl i := by simpa only [Rep] using h
theorem str_of {C : RC} {i : Str} {v : V} (h : Rep C (.str i) v) : v = .str i := by simpa only [Rep] using h
theorem non_of {C : RC} {v : V} (h : Rep C .non v) : v = .non := by simpa only [Rep] using h
theorem tup_of {C : RC} {ds : List D} {v : V} (h : Rep C (.tup ds) v) : ∃ a vs, v = .ref a ∧ SqT C.K C.H a vs ∧ RepL C ds vs := by simpa only [Rep] using h
theorem lst_of {C : RC} {ds : List D} {v : V} (h : Rep C (.lst ds) v) : ∃ a vs, v = .ref a ∧ C.H a = some (.lst vs) ∧ ¬ C.lv a ∧ RepL C ds vs := by simpa only [Rep] using h
theorem scr_of {C : RC} {ns : List Int} {v : V} (h : Rep C (.scr ns) v) : ∃ a, v = .ref a ∧ SqF C.K C.H a (ns.map V.int) := by simpa only [Rep] using h
theorem ref_of {C : RC} {n : Nat} {v : V} (h : Rep C (.ref n) v) : ∃ a, v = .ref a ∧ C.m[n]? = some a := by simpa only [Rep] using h
theorem rep_int {C : RC} {i : Int} : Rep C (.int i) (.int i) := by simp only [Rep]
theorem rep_bl {C : RC} {i : Bool} : Rep C (.bl i) (.bl i) := by simp only [Rep]
theorem rep_str {C : RC} {i : Str} : Rep C (.str i) (.str i) := by simp only [Rep]
theorem rep_non {C : RC} : Rep C .non .non := by simp only [Rep]

theorem op_addD (hK : X.K = c.F.K) : OpR X (binaryOp .Add) (rD c addD) := by
  refine OpR_imp (op_add.or (op_cat.or (op_catA.or op_add_str))) fun x y H Q h => ?_
  obtain ⟨g, m, d, e, s, r1, r2, h⟩ := h
  unfold addD at h
  split at h
  · have e1 := int_of r1
    have e2 := int_of r2
    subst e1 e2
    exact .inl ⟨_, _, rfl, rfl, WP_ret s h rep_int⟩
  · split at h
    · rename_i hz
      obtain ⟨a1, vs1, rfl, h1, n1, l1⟩ := lst_of r1
      obtain ⟨a2, vs2, rfl, h2, n2, l2⟩ := lst_of r2
      refine .inr (.inl ⟨a1, a2, vs1, vs2, rfl, rfl, h1, h2, by rw [l1.length, l2.length]; exact le_lim hz, fun p hp => WP_new s h hp (Rep_lst_new s hp (l1.append l2))⟩)
    · exact h.elim
  · split at h
    · rename_i hz
      obtain ⟨a1, vs1, rfl, h1, l1⟩ := tup_of r1
      obtain ⟨a2, vs2, rfl, h2, l2⟩ := tup_of r2
      have z := le_lim hz
      rw [← l1.length, ← l2.length] at z
      refine .inr (.inr (.inl ?_))
      have hn1 : vs1 = [] → ∀ ds, RepL (c.F.rc H g m) ds vs1 → ds = [] := fun e ds r => by
        have := r.length
        rw [e] at this
        exact List.eq_nil_of_length_eq_zero this.symm
      refine ⟨a1, a2, vs1, vs2, rfl, rfl, by rw [hK]; exact h1, by rw [hK]; exact h2, z, ?_⟩
      refine ⟨fun hx => ?_, fun hx hy => ?_, fun hx hy p hp => WP_new s h hp (Rep_tup_new s hp (l1.append l2))⟩
      · have e1 := hn1 hx _ l1
        subst e1
        exact WP_ret s h r2
      · have e2 : _ = [] := List.eq_nil_of_length_eq_zero (show (_ : List D).length = 0 by rw [← l2.length, hy]; rfl)
        rw [e2, List.append_nil] at h
        exact WP_ret s h r1
    · exact h.elim
  · split at h
    · rename_i hz
      have e1 := str_of r1
      have e2 := str_of r2
      subst e1 e2
      exact .inr (.inr (.inr ⟨_, _, rfl, rfl, le_lim hz, WP_ret s h rep_str⟩))
    · exact h.elim
  · exact h.elim
theorem op_subD : OpR X (binaryOp .Sub) (rD c subD) := by
  refine OpR_imp op_sub fun x y H Q h => ?_
  obtain ⟨g, m, d, e, s, r1, r2, h⟩ := h
  unfold subD at h
  split at h
  · have e1 := int_of r1
    have e2 := int_of r2
    subst e1 e2
    exact ⟨_, _, rfl, rfl, WP_ret s h rep_int⟩
  · exact h.elim
theorem op_mulD (hK : X.K = c.F.K) : OpR X (binaryOp .Mult) (rD c mulD) := by
  refine OpR_imp (op_mulW.or (op_rep.or (op_repT.or op_rep1))) fun x y H Q h => ?_
  obtain ⟨g, m, d, e, s, r1, r2, h⟩ := h
  unfold mulD at h
  split at h
  · split at h
    · rename_i hz
      have e1 := int_of r1
      have e2 := int_of r2
      subst e1 e2
      have hz2 := mulOk_of hz
      exact .inl ⟨_, _, rfl, rfl, hz2, WP_ret s h rep_int⟩
    · exact h.elim
  · split at h
    · rename_i hz
      obtain ⟨a1, vs1, rfl, h1, n1, l1⟩ := lst_of r1
      have e2 := int_of r2
      subst e2
      refine .inr (.inl ⟨a1, _, vs1, rfl, rfl, h1, by omega, by omega, by rw [l1.length]; exact le_lim hz.2.1, fun p hp => WP_new s h hp (Rep_lst_new s hp ?_)⟩)
      generalize (Int.toNat _) = k
      clear h hz hp
      induction k with
      | zero => simp only [List.replicate_zero, List.flatten_nil, RepL]
      | succ k ih =>
        rw [List.replicate_succ, List.replicate_succ, List.flatten_cons, List.flatten_cons]
        exact l1.append ih
    · exact h.elim
  · split at h
    · rename_i hz
      have r1' := r1
      obtain ⟨a1, vs1, rfl, h1, l1⟩ := tup_of r1
      have e2 := int_of r2
      subst e2
      subst hz
      exact .inr (.inr (.inr ⟨a1, vs1, rfl, rfl, by rw [hK]; exact h1, WP_ret s h r1'⟩))
    split at h
    · rename_i hz
      obtain ⟨a1, vs1, rfl, h1, l1⟩ := tup_of r1
      have e2 := int_of r2
      subst e2
      refine .inr (.inr (.inl ⟨a1, _, vs1, rfl, rfl, by rw [hK]; exact h1, ?_, hz.1, hz.2.1, by rw [l1.length]; exact hz.2.2.2, fun p hp => WP_new s h hp (Rep_tup_new s hp ?_)⟩))
      · intro e
        have := l1.length
        rw [e] at this
        exact hz.2.2.1 (List.eq_nil_of_length_eq_zero this.symm)
      generalize (Int.toNat _) = k
      clear h hz hp
      induction k with
      | zero => simp only [List.replicate_zero, List.flatten_nil, RepL]
      | succ k ih =>
        rw [List.replicate_succ, List.replicate_succ, List.flatten_cons, List.flatten_cons]
        exact l1.append ih
    · exact h.elim
  · exact h.elim
theorem op_fdivX : OpR X (binaryOp .FloorDiv) (rI CDivP fun i j => .int (i / j)) := opI fun i j _ _ _ _ _ hc q => by
  have h1 : (0 : Int) < j := hc.1
  exact floordiv_int (by omega) (by rw [Int.fdiv_eq_ediv_of_nonneg i (by omega)]; exact q) (.inl hc.2)
theorem divOk_of {a b : Int} (h : divOk a b = true) : CDivP a b := by
  unfold divOk at h
  obtain ⟨h1, h2⟩ := Bool.and_eq_true_iff.mp h
  refine ⟨of_decide_eq_true h1, ?_⟩
  cases e : Builtin.divisionGoesByPylong a b with
  | false => rfl
  | true =>
    rw [e] at h2
    cases h2
theorem op_fdivD : OpR X (binaryOp .FloorDiv) (rD c fdivD) := by
  refine OpR_imp op_fdivX fun x y H Q h => ?_
  obtain ⟨g, m, d, e, s, r1, r2, h⟩ := h
  unfold fdivD at h
  split at h
  · split at h
    · rename_i hz
      have e1 := int_of r1
      have e2 := int_of r2
      subst e1 e2
      exact ⟨_, _, rfl, rfl, divOk_of hz, WP_ret s h rep_int⟩
    · exact h.elim
  · exact h.elim
theorem op_modD : OpR X (binaryOp .Mod) (rD c modD) := by
  refine OpR_imp op_mod fun x y H Q h => ?_
  obtain ⟨g, m, d, e, s, r1, r2, h⟩ := h
  unfold modD at h
  split at h
  · split at h
    · rename_i hz
      have e1 := int_of r1
      have e2 := int_of r2
      subst e1 e2
      exact ⟨_, _, rfl, rfl, hz, WP_ret s h rep_int⟩
    · exact h.elim
  · exact h.elim
theorem op_powD : OpR X (binaryOp .Pow) (rD c powD) := by
  refine OpR_imp op_pow fun x y H Q h => ?_
  obtain ⟨g, m, d, e, s, r1, r2, h⟩ := h
  unfold powD at h
  split at h
  · split at h
    · rename_i hz
      have e1 := int_of r1
      have e2 := int_of r2
      subst e1 e2
      exact ⟨_, _, rfl, rfl, hz, WP_ret s h rep_int⟩
    · exact h.elim
  · exact h.elim
end

/-! ### reading a cell as a list; data of the model -/
def deref : D → M D
  | .ref n => fun g => match g[n]? with
    | some (.lst ds) => .ok (.lst ds) g
    | some (.lck ds) => .ok (.lst ds) g
    | _ => .bot
  | d => ret d
mutual
theorem Rep.weak {F : FX} {H : Hp} {g : G} {m : List Addr} : ∀ {d : D} {v : V}, Rep (F.rc H g m) d v → Rep (F.rd H m) d v
  | .non, v, h => by simp only [Rep] at h ⊢; exact h
  | .bl b, v, h => by simp only [Rep] at h ⊢; exact h
  | .int i, v, h => by simp only [Rep] at h ⊢; exact h
  | .str x, v, h => by simp only [Rep] at h ⊢; exact h
  | .tup ds, v, h => by
    simp only [Rep] at h ⊢
    obtain ⟨a, vs, rfl, h1, h2⟩ := h
    exact ⟨a, vs, rfl, h1, RepL.weak h2⟩
  | .lst ds, v, h => by
    simp only [Rep] at h ⊢
    obtain ⟨a, vs, rfl, h1, h2, h3⟩ := h
    exact ⟨a, vs, rfl, h1, fun z => z, RepL.weak h3⟩
  | .scr ns, v, h => by simp only [Rep] at h ⊢; exact h
  | .dic ks ds, v, h => by
    simp only [Rep] at h ⊢
    obtain ⟨a, vs, rfl, h1, h2, h3⟩ := h
    exact ⟨a, vs, rfl, h1, h2, RepL.weak h3⟩
  | .fn i, v, h => by simp only [Rep] at h ⊢; exact h
  | .exn c ds, v, h => by simp only [Rep] at h
  | .ref n, v, h => by simp only [Rep] at h ⊢; exact h
theorem RepL.weak {F : FX} {H : Hp} {g : G} {m : List Addr} : ∀ {ds : List D} {vs : List V}, RepL (F.rc H g m) ds vs → RepL (F.rd H m) ds vs
  | [], vs, h => by rw [RepL.nil] at h ⊢; exact h
  | d :: ds, vs, h => by
    rw [RepL.cons] at h ⊢
    obtain ⟨v, vs', rfl, h1, h2⟩ := h
    exact ⟨v, vs', rfl, Rep.weak h1, RepL.weak h2⟩
end
theorem deref_ref {n : Nat} {g : G} : deref (.ref n) g = match g[n]? with
    | some (.lst ds) => .ok (.lst ds) g
    | some (.lck ds) => .ok (.lst ds) g
    | _ => .bot := rfl
theorem deref_ok {F : FX} {H : Hp} {g g' : G} {m : List Addr} {d e : D} {v : V} (s : SR F H g m) (r : Rep (F.rc H g m) d v) (h : deref d g = .ok e g') : g' = g ∧ Rep (F.rd H m) e v := by
  cases d with
  | ref n =>
    obtain ⟨a, rfl, ha⟩ := ref_of r
    have ha : m[n]? = some a := ha
    rw [deref_ref] at h
    split at h
    · rename_i ds hn
      cases h
      obtain ⟨a', vs, h1, h2, h3⟩ := s.lst n ds hn
      rw [ha] at h1
      cases h1
      exact ⟨rfl, by simp only [Rep]; exact ⟨a, vs, rfl, h2, fun z => z, h3.weak⟩⟩
    · rename_i ds hn
      cases h
      obtain ⟨a', vs, h1, h2, h3⟩ := s.lck n ds hn
      rw [ha] at h1
      cases h1
      exact ⟨rfl, by simp only [Rep]; exact ⟨a, vs, rfl, h2, fun z => z, h3.weak⟩⟩
    · cases h
  | _ =>
    cases (show R.ok _ g = R.ok e g' from h)
    exact ⟨rfl, r.weak⟩
theorem deref_ne {d : D} {g : G} {x : XD} {g' : G} : deref d g ≠ .err x g' := by
  cases d with
  | ref n =>
    rw [deref_ref]
    split <;> exact fun z => by cases z
  | _ => exact fun z => by cases z
mutual
def toPD : D → Option PyData
  | .non => some .none
  | .bl b => some (.bool b)
  | .int i => some (.int i)
  | .str x => some (.str x)
  | .tup ds => (toPDs ds).map PyData.tuple
  | .lst ds => (toPDs ds).map PyData.list
  | .scr ns => some (.list (ns.map PyData.int))
  | .dic _ _ => none
  | .fn _ => none
  | .exn _ _ => none
  | .ref _ => none
def toPDs : List D → Option (List PyData)
  | [] => some []
  | d :: ds => match toPD d, toPDs ds with
    | some x, some xs => some (x :: xs)
    | _, _ => none
end
theorem DpAll_ints {K : PySem.W.Frag} {H : Hp} : ∀ ns : List Int, DpAll K H (ns.map V.int) (ns.map PyData.int)
  | [] => .nil
  | n :: ns => .cons (.int n) (DpAll_ints ns)
mutual
theorem dp_of {F : FX} {H : Hp} {m : List Addr} : ∀ {d : D} {v : V} {x : PyData}, Rep (F.rd H m) d v → toPD d = some x → Dp F.K H v x
  | .non, v, x, h, e => by simp only [Rep, toPD, Option.some.injEq] at h e; subst h e; exact .non
  | .bl b, v, x, h, e => by simp only [Rep, toPD, Option.some.injEq] at h e; subst h e; exact .bl b
  | .int i, v, x, h, e => by simp only [Rep, toPD, Option.some.injEq] at h e; subst h e; exact .int i
  | .str y, v, x, h, e => by simp only [Rep, toPD, Option.some.injEq] at h e; subst h e; exact .str y
  | .tup ds, v, x, h, e => by
    simp only [toPD] at e
    obtain ⟨xs, h1, rfl⟩ := Option.map_eq_some_iff.mp e
    obtain ⟨a, vs, rfl, h2, h3⟩ := tup_of h
    exact .tup h2 (dps_of h3 h1)
  | .lst ds, v, x, h, e => by
    simp only [toPD] at e
    obtain ⟨xs, h1, rfl⟩ := Option.map_eq_some_iff.mp e
    obtain ⟨a, vs, rfl, h2, _, h3⟩ := lst_of h
    exact .lst (.inl (.inl h2)) (dps_of h3 h1)
  | .scr ns, v, x, h, e => by
    simp only [toPD, Option.some.injEq] at e
    subst e
    obtain ⟨a, rfl, h2⟩ := scr_of h
    exact .lst h2.sqL (DpAll_ints ns)
  | .dic _ _, v, x, h, e => by simp only [toPD] at e; cases e
  | .fn _, v, x, h, e => by simp only [toPD] at e; cases e
  | .exn _ _, v, x, h, e => by simp only [toPD] at e; cases e
  | .ref _, v, x, h, e => by simp only [toPD] at e; cases e
theorem dps_of {F : FX} {H : Hp} {m : List Addr} : ∀ {ds : List D} {vs : List V} {xs : List PyData}, RepL (F.rd H m) ds vs → toPDs ds = some xs → DpAll F.K H vs xs
  | [], vs, xs, h, e => by rw [RepL.nil] at h; simp only [toPDs, Option.some.injEq] at e; subst h e; exact .nil
  | d :: ds, vs, xs, h, e => by
    rw [RepL.cons] at h
    obtain ⟨v, vs', rfl, h1, h2⟩ := h
    simp only [toPDs] at e
    split at e
    · rename_i x xs' e1 e2
      cases e
      exact .cons (dp_of h1 e1) (dps_of h2 e2)
    · cases e
end
/-- == of two things -/
def eqO (a b : D) : Option Bool := match toPD a, toPD b with
  | some x, some y => if SeqAt.shaped x = true ∧ SeqAt.shaped y = true then some (PyData.eqv x y) else none
  | _, _ => none
def eqD (a b : D) : M D := bnd (deref a) fun a => bnd (deref b) fun b => match eqO a b with
  | some t => ret (.bl t)
  | none => bot
def neD (a b : D) : M D := bnd (deref a) fun a => bnd (deref b) fun b => match eqO a b with
  | some t => ret (.bl (!t))
  | none => bot
section
variable {X : Cx} {c : CF}
/-- two things read -/
theorem read2 {c : CF} {H : Hp} {g : G} {m : List Addr} {d e : D} {x y : V} {k : D → D → M D} {Q : VK} (s : SR c.F H g m) (r1 : Rep (c.F.rc H g m) d x) (r2 : Rep (c.F.rc H g m) e y) (h : WP Rep c H g m (bnd (deref d) (fun a => bnd (deref e) fun b => k a b) g) Q) :
    ∃ a b, Rep (c.F.rd H m) a x ∧ Rep (c.F.rd H m) b y ∧ WP Rep c H g m (k a b g) Q := by
  unfold bnd at h
  cases e1 : deref d g with
  | ok a g1 =>
    obtain ⟨rfl, q1⟩ := deref_ok s r1 e1
    rw [e1] at h
    dsimp only at h
    cases e2 : deref e g1 with
    | ok b g2 =>
      obtain ⟨rfl, q2⟩ := deref_ok s r2 e2
      rw [e2] at h
      exact ⟨a, b, q1, q2, h⟩
    | err _ _ => exact absurd e2 deref_ne
    | bot =>
      rw [e2] at h
      exact h.elim
  | err _ _ => exact absurd e1 deref_ne
  | bot =>
    rw [e1] at h
    exact h.elim
theorem op_eqDD (hK : X.K = c.F.K) (hu : X.A.units + 64 < cLine) : OpR X (compareOp .Eq) (rD c eqD) := by
  refine OpR_imp (op_eqD hu) fun x y H Q h => ?_
  obtain ⟨g, m, d, e, s, r1, r2, h⟩ := h
  obtain ⟨a, b, q1, q2, h⟩ := read2 s r1 r2 h
  cases e1 : eqO a b with
  | none =>
    rw [e1] at h
    exact h.elim
  | some t =>
    rw [e1] at h
    unfold eqO at e1
    split at e1
    · rename_i x' y' ex ey
      split at e1
      · rename_i hs
        cases e1
        exact ⟨x', y', by rw [hK]; exact dp_of q1 ex, by rw [hK]; exact dp_of q2 ey, hs.1, hs.2, WP_ret s h rep_bl⟩
      · cases e1
    · cases e1
theorem op_neDD (hK : X.K = c.F.K) (hu : X.A.units + 64 < cLine) : OpR X (compareOp .NotEq) (rD c neD) := by
  refine OpR_imp (op_neD hu) fun x y H Q h => ?_
  obtain ⟨g, m, d, e, s, r1, r2, h⟩ := h
  obtain ⟨a, b, q1, q2, h⟩ := read2 s r1 r2 h
  cases e1 : eqO a b with
  | none =>
    rw [e1] at h
    exact h.elim
  | some t =>
    rw [e1] at h
    unfold eqO at e1
    split at e1
    · rename_i x' y' ex ey
      split at e1
      · rename_i hs
        cases e1
        exact ⟨x', y', by rw [hK]; exact dp_of q1 ex, by rw [hK]; exact dp_of q2 ey, hs.1, hs.2, WP_ret s h rep_bl⟩
      · cases e1
    · cases e1
end
end L3
set_option Elab.async false
set_option linter.all false
set_option maxRecDepth 100000
set_option maxHeartbeats 4000000
namespace L3
open PySem PySem.Spec PyProof.Rows L2

/-! ### order, is, in -/
def toInts : List D → Option (List Int)
  | [] => some []
  | .int i :: ds => (toInts ds).map (i :: ·)
  | _ => none
theorem toInts_v {C : RC} : ∀ {ds : List D} {vs : List V} {ns : List Int}, RepL C ds vs → toInts ds = some ns → vs = ns.map V.int
  | [], vs, ns, h, e => by
    rw [RepL.nil] at h
    simp only [toInts, Option.some.injEq] at e
    subst h e
    rfl
  | d :: ds, vs, ns, h, e => by
    rw [RepL.cons] at h
    obtain ⟨v, vs', rfl, h1, h2⟩ := h
    cases d with
    | int i =>
      simp only [toInts] at e
      obtain ⟨ms, e1, rfl⟩ := Option.map_eq_some_iff.mp e
      rw [int_of h1, toInts_v h2 e1]
      rfl
    | _ => cases e
def toBools : List D → Option (List Bool)
  | [] => some []
  | .bl i :: ds => (toBools ds).map (i :: ·)
  | _ => none
theorem toBools_v {C : RC} : ∀ {ds : List D} {vs : List V} {ns : List Bool}, RepL C ds vs → toBools ds = some ns → vs = ns.map V.bl
  | [], vs, ns, h, e => by
    rw [RepL.nil] at h
    simp only [toBools, Option.some.injEq] at e
    subst h e
    rfl
  | d :: ds, vs, ns, h, e => by
    rw [RepL.cons] at h
    obtain ⟨v, vs', rfl, h1, h2⟩ := h
    cases d with
    | bl i =>
      simp only [toBools] at e
      obtain ⟨ms, e1, rfl⟩ := Option.map_eq_some_iff.mp e
      rw [bl_of h1, toBools_v h2 e1]
      rfl
    | _ => cases e
def ltO : Option (List Int) → Option (List Int) → Option D
  | some x, some y => some (.bl (HT.lexLt x y))
  | _, _ => none
def ltD : D → D → M D
  | .int a, .int b => ret (.bl (decide (a < b)))
  | .str a, .str b => ret (.bl (decide (a.cps.toList < b.cps.toList)))
  | .tup a, .tup b => ofO (ltO (toInts a) (toInts b))
  | _, _ => bot
def leD : D → D → M D
  | .int a, .int b => ret (.bl (decide (a ≤ b)))
  | _, _ => bot
def gtD : D → D → M D
  | .int a, .int b => ret (.bl (decide (b < a)))
  | _, _ => bot
def geD : D → D → M D
  | .int a, .int b => ret (.bl (decide (b ≤ a)))
  | _, _ => bot
def isNonD (d : D) : Bool := match d with
  | .non => true
  | _ => false
def isND (d : D) : M D := ret (.bl (isNonD d))
def isNND (d : D) : M D := ret (.bl (!isNonD d))
def isBD : D → D → M D
  | .bl a, .bl b => ret (.bl (a == b))
  | _, _ => bot
def isNBD : D → D → M D
  | .bl a, .bl b => ret (.bl (!(a == b)))
  | _, _ => bot
theorem isNon_v {C : RC} {d : D} {v : V} (r : Rep C d v) : decide (v = .non) = isNonD d := by
  cases d with
  | non => rw [non_of r]; rfl
  | bl b => rw [bl_of r]; rfl
  | int i => rw [int_of r]; rfl
  | str x => rw [str_of r]; rfl
  | tup ds => obtain ⟨a, vs, rfl, _⟩ := tup_of r; rfl
  | lst ds => obtain ⟨a, vs, rfl, _⟩ := lst_of r; rfl
  | scr ds => obtain ⟨a, rfl, _⟩ := scr_of r; rfl
  | dic ks ds => simp only [Rep] at r; obtain ⟨a, vs, rfl, _⟩ := r; rfl
  | fn i => simp only [Rep] at r; obtain ⟨a, rfl, _⟩ := r; rfl
  | exn c ds => simp only [Rep] at r
  | ref n => obtain ⟨a, rfl, _⟩ := ref_of r; rfl
/-- flat data -/
def flatPD : PyData → Bool
  | .none => true
  | .bool _ => true
  | .int _ => true
  | .str _ => true
  | _ => false
theorem flat_v {K : PySem.W.Frag} {H : Hp} {v : V} {x : PyData} (h : Dp K H v x) (f : flatPD x = true) : flatV v = true := by
  cases h with
  | non => rfl
  | bl _ => rfl
  | int _ => rfl
  | str _ => rfl
  | lst _ _ => cases f
  | tup _ _ => cases f
theorem flat_eq {K : PySem.W.Frag} {H : Hp} {v w : V} {x y : PyData} (h : Dp K H v x) (h2 : Dp K H w y) (f : flatPD x = true) (f2 : flatPD y = true) : eqV v w = PyData.eqv x y := by
  cases h with
  | lst _ _ => cases f
  | tup _ _ => cases f
  | _ =>
    cases h2 with
    | lst _ _ => cases f2
    | tup _ _ => cases f2
    | _ => simp [eqV, PyData.eqv]
theorem flat_all {K : PySem.W.Frag} {H : Hp} : ∀ {vs : List V} {xs : List PyData}, DpAll K H vs xs → xs.all flatPD = true → vs.all flatV = true
  | _, _, .nil, _ => rfl
  | _, _, .cons h t, f => by
    rw [List.all_cons, Bool.and_eq_true] at f ⊢
    exact ⟨flat_v h f.1, flat_all t f.2⟩
theorem flat_in {K : PySem.W.Frag} {H : Hp} {v : V} {x : PyData} (h : Dp K H v x) (f : flatPD x = true) : ∀ {vs : List V} {xs : List PyData}, DpAll K H vs xs → xs.all flatPD = true → inV v vs = xs.any fun y => PyData.eqv y x
  | _, _, .nil, _ => rfl
  | _, _, .cons h1 t, f1 => by
    rw [List.all_cons, Bool.and_eq_true] at f1
    unfold inV
    rw [List.any_cons, List.any_cons, flat_eq h1 h f1.1 f]
    exact congrArg _ (flat_in h f t f1.2)
def inO (x c : D) : Option Bool := match toPD x, toPD c with
  | some a, some (.list bs) => if SeqAt.shaped a = true ∧ SeqAt.shaped (.list bs) = true then some (bs.any fun z => PyData.eqv z a) else none
  | some a, some (.tuple bs) => if flatPD a = true ∧ bs.all flatPD = true then some (bs.any fun z => PyData.eqv z a) else none
  | _, _ => none
def inD (x c : D) : M D := bnd (deref x) fun x => bnd (deref c) fun c => match inO x c with
  | some t => ret (.bl t)
  | none => bot
def ninD (x c : D) : M D := bnd (deref x) fun x => bnd (deref c) fun c => match inO x c with
  | some t => ret (.bl (!t))
  | none => bot
section
variable {X : Cx} {c : CF}
theorem op_ltD (hK : X.K = c.F.K) (hu : X.A.units < cLine) : OpR X (compareOp .Lt) (rD c ltD) := by
  refine OpR_imp (op_lt.or (op_lt_str.or (op_ltT hu))) fun x y H Q h => ?_
  obtain ⟨g, m, d, e, s, r1, r2, h⟩ := h
  unfold ltD at h
  split at h
  · have e1 := int_of r1
    have e2 := int_of r2
    subst e1 e2
    exact .inl ⟨_, _, rfl, rfl, WP_ret s h rep_bl⟩
  · have e1 := str_of r1
    have e2 := str_of r2
    subst e1 e2
    exact .inr (.inl ⟨_, _, rfl, rfl, WP_ret s h rep_bl⟩)
  · rename_i a b
    cases ex : toInts a with
    | none =>
      rw [ex] at h
      exact h.elim
    | some x' =>
      cases ey : toInts b with
      | none =>
        rw [ex, ey] at h
        exact h.elim
      | some y' =>
        rw [ex, ey] at h
        obtain ⟨a1, vs1, rfl, h1, l1⟩ := tup_of r1
        obtain ⟨a2, vs2, rfl, h2, l2⟩ := tup_of r2
        have e1 := toInts_v l1 ex
        have e2 := toInts_v l2 ey
        subst e1 e2
        exact .inr (.inr ⟨a1, a2, _, _, rfl, rfl, by rw [hK]; exact h1, by rw [hK]; exact h2, WP_ret s h rep_bl⟩)
  · exact h.elim
theorem op_int2 {op : CmpOp} {p : Int → Int → Bool} {f : D → D → M D} (ho : OpR X (compareOp op) (rI0 fun i j => .bl (p i j))) (hf : ∀ d e, (∃ i j, d = .int i ∧ e = .int j ∧ f d e = ret (.bl (p i j))) ∨ f d e = bot) : OpR X (compareOp op) (rD c f) := by
  refine OpR_imp ho fun x y H Q h => ?_
  obtain ⟨g, m, d, e, s, r1, r2, h⟩ := h
  rcases hf d e with ⟨i, j, rfl, rfl, q⟩ | q
  · rw [q] at h
    have e1 := int_of r1
    have e2 := int_of r2
    subst e1 e2
    exact ⟨_, _, rfl, rfl, WP_ret s h rep_bl⟩
  · rw [q] at h
    exact h.elim
theorem op_leD : OpR X (compareOp .LtE) (rD c leD) := op_int2 op_le fun d e => by
  unfold leD
  split
  · exact .inl ⟨_, _, rfl, rfl, rfl⟩
  · exact .inr rfl
theorem op_gtD : OpR X (compareOp .Gt) (rD c gtD) := op_int2 op_gt fun d e => by
  unfold gtD
  split
  · exact .inl ⟨_, _, rfl, rfl, rfl⟩
  · exact .inr rfl
theorem op_geD : OpR X (compareOp .GtE) (rD c geD) := op_int2 op_ge fun d e => by
  unfold geD
  split
  · exact .inl ⟨_, _, rfl, rfl, rfl⟩
  · exact .inr rfl
theorem op_isBD : OpR X (compareOp .Is) (rD c isBD) := by
  refine OpR_imp op_isBl fun x y H Q h => ?_
  obtain ⟨g, m, d, e, s, r1, r2, h⟩ := h
  unfold isBD at h
  split at h
  · have e1 := bl_of r1
    have e2 := bl_of r2
    subst e1 e2
    rw [Bool.beq_eq_decide_eq] at h
    exact ⟨_, _, rfl, rfl, WP_ret s h rep_bl⟩
  · exact h.elim
theorem op_isNBD : OpR X (compareOp .IsNot) (rD c isNBD) := by
  refine OpR_imp op_notBl fun x y H Q h => ?_
  obtain ⟨g, m, d, e, s, r1, r2, h⟩ := h
  unfold isNBD at h
  split at h
  · have e1 := bl_of r1
    have e2 := bl_of r2
    subst e1 e2
    rw [Bool.beq_eq_decide_eq] at h
    exact ⟨_, _, rfl, rfl, WP_ret s h rep_bl⟩
  · exact h.elim
theorem in_read {K : PySem.W.Frag} {H : Hp} {m : List Addr} {F : FX} {a b : D} {x y : V} {t : Bool} (q1 : Rep (F.rd H m) a x) (q2 : Rep (F.rd H m) b y) (e1 : inO a b = some t) :
    (∃ d ds, Dp F.K H x d ∧ Dp F.K H y (.list ds) ∧ SeqAt.shaped d = true ∧ SeqAt.shaped (.list ds) = true ∧ t = ds.any fun z => PyData.eqv z d) ∨
      ∃ p xs, y = .ref p ∧ SqT F.K H p xs ∧ flatV x = true ∧ xs.all flatV = true ∧ t = inV x xs := by
  unfold inO at e1
  split at e1
  · rename_i a' bs ea eb
    split at e1
    · rename_i hs
      cases e1
      exact .inl ⟨_, _, dp_of q1 ea, dp_of q2 eb, hs.1, hs.2, rfl⟩
    · cases e1
  · rename_i a' bs ea eb
    split at e1
    · rename_i hs
      cases e1
      have d1 := dp_of q1 ea
      have d2 := dp_of q2 eb
      cases d2 with
      | tup hs2 hd => exact .inr ⟨_, _, rfl, hs2, flat_v d1 hs.1, flat_all hd hs.2, (flat_in d1 hs.1 hd hs.2).symm⟩
    · cases e1
  · cases e1
theorem op_inDD (hK : X.K = c.F.K) (hu : X.A.units + 65 < cLine) : OpR X (compareOp .In) (rD c inD) := by
  refine OpR_imp ((op_inD hu).or op_in_seq) fun x y H Q h => ?_
  obtain ⟨g, m, d, e, s, r1, r2, h⟩ := h
  obtain ⟨a, b, q1, q2, h⟩ := read2 s r1 r2 h
  cases e1 : inO a b with
  | none =>
    rw [e1] at h
    exact h.elim
  | some t =>
    rw [e1] at h
    rcases in_read (K := X.K) q1 q2 e1 with ⟨d, ds, h1, h2, h3, h4, rfl⟩ | ⟨p, xs, rfl, h1, h2, h3, rfl⟩
    · exact .inl ⟨d, ds, by rw [hK]; exact h1, by rw [hK]; exact h2, h3, h4, WP_ret s h rep_bl⟩
    · exact .inr ⟨p, xs, rfl, .inr (by rw [hK]; exact h1), h2, h3, WP_ret s h rep_bl⟩
theorem op_ninDD (hK : X.K = c.F.K) (hu : X.A.units + 65 < cLine) : OpR X (compareOp .NotIn) (rD c ninD) := by
  refine OpR_imp ((op_notInD hu).or op_notIn_seq) fun x y H Q h => ?_
  obtain ⟨g, m, d, e, s, r1, r2, h⟩ := h
  obtain ⟨a, b, q1, q2, h⟩ := read2 s r1 r2 h
  cases e1 : inO a b with
  | none =>
    rw [e1] at h
    exact h.elim
  | some t =>
    rw [e1] at h
    rcases in_read (K := X.K) q1 q2 e1 with ⟨d, ds, h1, h2, h3, h4, rfl⟩ | ⟨p, xs, rfl, h1, h2, h3, rfl⟩
    · exact .inl ⟨d, ds, by rw [hK]; exact h1, by rw [hK]; exact h2, h3, h4, WP_ret s h rep_bl⟩
    · exact .inr ⟨p, xs, rfl, .inr (by rw [hK]; exact h1), h2, h3, WP_ret s h rep_bl⟩
end

/-! ### truth -/
def truO : D → Option Bool
  | .non => some false
  | .bl b => some b
  | .int i => some (i != 0)
  | .str x => if x.length ≤ lim then some ((x.length : Int) != 0) else none
  | .tup ds => some (!ds.isEmpty)
  | .lst ds => some (!ds.isEmpty)
  | .scr ns => some (!ns.isEmpty)
  | .dic ks _ => some (!ks.isEmpty)
  | _ => none
def truD (d : D) : M Bool := bnd (deref d) fun d => ofO (truO d)
theorem isEmpty_rep {C : RC} {ds : List D} {vs : List V} (h : RepL C ds vs) : (!ds.isEmpty) = !vs.isEmpty := by
  have := h.length
  cases ds <;> cases vs <;> first | rfl | cases this
theorem read1 {c : CF} {α β : Type} {rep : RC → α → β → Prop} {H : Hp} {g : G} {m : List Addr} {d : D} {x : V} {k : D → M α} {Q : β → Hp → Prop} (s : SR c.F H g m) (r1 : Rep (c.F.rc H g m) d x) (h : WP rep c H g m (bnd (deref d) k g) Q) :
    ∃ a, Rep (c.F.rd H m) a x ∧ WP rep c H g m (k a g) Q := by
  unfold bnd at h
  cases e1 : deref d g with
  | ok a g1 =>
    obtain ⟨rfl, q1⟩ := deref_ok s r1 e1
    rw [e1] at h
    exact ⟨a, q1, h⟩
  | err _ _ => exact absurd e1 deref_ne
  | bot =>
    rw [e1] at h
    exact h.elim
theorem tru_v {F : FX} {H : Hp} {m : List Addr} {d : D} {v : V} {k : Bool} (r : Rep (F.rd H m) d v) (e : truO d = some k) : TruV F.K v H k := by
  cases d with
  | non => rw [non_of r]; cases e; rfl
  | bl b => rw [bl_of r]; cases e; rfl
  | int i => rw [int_of r]; cases e; rfl
  | str x =>
    rw [str_of r]
    simp only [truO] at e
    split at e
    · rename_i h
      cases e
      exact ⟨le_lim h, rfl⟩
    · cases e
  | tup ds =>
    obtain ⟨a, vs, rfl, h1, h2⟩ := tup_of r
    cases e
    exact .inr (.inl ⟨vs, h1, isEmpty_rep h2⟩)
  | lst ds =>
    obtain ⟨a, vs, rfl, h1, _, h2⟩ := lst_of r
    cases e
    exact .inl ⟨vs, .inl (.inl h1), isEmpty_rep h2⟩
  | scr ns =>
    obtain ⟨a, rfl, h1⟩ := scr_of r
    cases e
    exact .inl ⟨_, h1.sqL, by cases ns <;> rfl⟩
  | dic ks ds =>
    simp only [Rep] at r
    obtain ⟨a, vs, rfl, h1, h2, h3⟩ := r
    cases e
    refine .inr (.inr ⟨_, h1, ?_⟩)
    cases ks <;> cases vs <;> first | rfl | cases h2
  | fn i => cases e
  | exn c ds => cases e
  | ref n => cases e
theorem tru_read {c : CF} {H : Hp} {g : G} {m : List Addr} {d : D} {v : V} {Q : Bool → Hp → Prop} (s : SR c.F H g m) (r : Rep (c.F.rc H g m) d v) (h : WP RepB c H g m (truD d g) Q) : ∃ k, TruV c.F.K v H k ∧ Q k H := by
  obtain ⟨a, q, h⟩ := read1 s r h
  cases e : truO a with
  | none =>
    rw [e] at h
    exact h.elim
  | some k =>
    rw [e] at h
    exact ⟨k, tru_v q e, WP.ret (rep := RepB) (b := k) s rfl h⟩

/-! ### built-ins -/
def itemsO : D → Option (List D)
  | .tup ds => some ds
  | .lst ds => some ds
  | .scr ns => some (ns.map .int)
  | _ => none
/-- what is walked: the items behind a list, a tuple -/
theorem items_v {F : FX} {H : Hp} {m : List Addr} {d : D} {v : V} {ds : List D} (r : Rep (F.rd H m) d v) (e : itemsO d = some ds) : ∃ a vs, v = .ref a ∧ (SqL F.K H a vs ∨ SqT F.K H a vs) ∧ RepL (F.rd H m) ds vs := by
  cases d with
  | tup es =>
    obtain ⟨a, vs, rfl, h1, h2⟩ := tup_of r
    cases e
    exact ⟨a, vs, rfl, .inr h1, h2⟩
  | lst es =>
    obtain ⟨a, vs, rfl, h1, _, h2⟩ := lst_of r
    cases e
    exact ⟨a, vs, rfl, .inl (.inl (.inl h1)), h2⟩
  | scr ns =>
    obtain ⟨a, rfl, h1⟩ := scr_of r
    cases e
    exact ⟨a, _, rfl, .inl h1.sqL, RepL.ints⟩
  | _ => cases e
def rd1 (f : D → Option D) (d : D) : M D := bnd (deref d) fun e => ofO (f e)
def lenO : D → Option D
  | .str x => if x.length ≤ lim then some (.int x.length) else none
  | .tup ds => some (.int ds.length)
  | .lst ds => some (.int ds.length)
  | .scr ns => some (.int ns.length)
  | .dic ks _ => some (.int ks.length)
  | _ => none
def lenD : D → M D := rd1 lenO
def allO : D → Option D
  | .lst ds => (toBools ds).map fun bs => .bl (bs.all id)
  | _ => none
def allD : D → M D := rd1 allO
def anyO : D → Option D
  | .lst ds => (toBools ds).map fun bs => .bl (bs.any id)
  | _ => none
def anyD : D → M D := rd1 anyO
def sumO : D → Option D
  | .lst ds => (toInts ds).map fun bs => .int bs.sum
  | _ => none
def sumD : D → M D := rd1 sumO
theorem rd1_v {c : CF} {f : D → Option D} {H : Hp} {g : G} {m : List Addr} {d : D} {x : V} {Q : VK} (s : SR c.F H g m) (r1 : Rep (c.F.rc H g m) d x) (h : WP Rep c H g m (rd1 f d g) Q) :
    ∃ a z, Rep (c.F.rd H m) a x ∧ f a = some z ∧ WP Rep c H g m (ret z g) Q := by
  obtain ⟨a, q, h⟩ := read1 s r1 h
  cases e : f a with
  | none =>
    rw [e] at h
    exact h.elim
  | some z =>
    rw [e] at h
    exact ⟨a, z, q, e, h⟩
def isTupD : D → Bool
  | .tup _ => true
  | _ => false
def tupD (d : D) : M D := bnd (deref d) fun e => match itemsO e with
  | some ds => ret (.tup ds)
  | none => bot
def lstD (d : D) : M D := bnd (deref d) fun e => match itemsO e with
  | some ds => ret (.lst ds)
  | none => bot
def intD : D → M D
  | .int i => ret (.int i)
  | .bl b => ret (.int (if b then 1 else 0))
  | _ => bot
def absD : D → M D
  | .int i => ret (.int (if i < 0 then -i else i))
  | _ => bot
def max2D : D → D → M D
  | .int i, .int j => ret (.int (if j > i then j else i))
  | _, _ => bot
def min2D : D → D → M D
  | .int i, .int j => ret (.int (if j < i then j else i))
  | _, _ => bot
def divmodD : D → D → M D
  | .int a, .int b => if divOk a b = true then ret (.tup [.int (a / b), .int (a % b)]) else bot
  | _, _ => bot
def gcdD : D → D → M D
  | .int a, .int b => ret (.int ((Nat.gcd a.natAbs b.natAbs : Nat) : Int))
  | _, _ => bot
def un (f : D → M D) : List D → M D
  | [a] => f a
  | _ => bot
def bi (f : D → D → M D) : List D → M D
  | [a, b] => f a b
  | _ => bot
theorem un_v {c : CF} {f : D → M D} {xs : List V} {H : Hp} {Q : VK} (h : rC c (un f) xs H Q) : ∃ g m d x, xs = [x] ∧ SR c.F H g m ∧ Rep (c.F.rc H g m) d x ∧ WP Rep c H g m (f d g) Q := by
  obtain ⟨g, m, ds, s, r, h⟩ := h
  cases ds with
  | nil => exact h.elim
  | cons d ds =>
    cases ds with
    | nil =>
      rw [RepL.cons] at r
      obtain ⟨x, xs', rfl, r1, r2⟩ := r
      rw [RepL.nil] at r2
      subst r2
      exact ⟨g, m, d, x, rfl, s, r1, h⟩
    | cons _ _ => exact h.elim
theorem bi_v {c : CF} {f : D → D → M D} {xs : List V} {H : Hp} {Q : VK} (h : rC c (bi f) xs H Q) : ∃ g m d e x y, xs = [x, y] ∧ SR c.F H g m ∧ Rep (c.F.rc H g m) d x ∧ Rep (c.F.rc H g m) e y ∧ WP Rep c H g m (f d e g) Q := by
  obtain ⟨g, m, ds, s, r, h⟩ := h
  cases ds with
  | nil => exact h.elim
  | cons d ds =>
    cases ds with
    | nil => exact h.elim
    | cons e ds =>
      cases ds with
      | nil =>
        rw [RepL.cons] at r
        obtain ⟨x, xs', rfl, r1, r2⟩ := r
        rw [RepL.cons] at r2
        obtain ⟨y, xs', rfl, r2, r3⟩ := r2
        rw [RepL.nil] at r3
        subst r3
        exact ⟨g, m, d, e, x, y, rfl, s, r1, r2, h⟩
      | cons _ _ => exact h.elim
/-- what is read off a weak representation stands in the full one: an item of a list that is no cell, or of a cell -/
theorem item_full {F : FX} {H : Hp} {g g' : G} {m : List Addr} {d e : D} {v : V} (s : SR F H g m) (r : Rep (F.rc H g m) d v) (h : deref d g = .ok e g') {ds : List D} (hi : itemsO e = some ds) :
    ∃ a vs, v = .ref a ∧ (if isTupD e = true then SqT F.K H a vs else SqL F.K H a vs) ∧ RepL (F.rc H g m) ds vs := by
  cases d with
  | ref n =>
    obtain ⟨a, rfl, ha⟩ := ref_of r
    have ha : m[n]? = some a := ha
    rw [deref_ref] at h
    split at h
    · rename_i es hn
      cases h
      cases hi
      obtain ⟨a', vs, h1, h2, h3⟩ := s.lst n _ hn
      rw [ha] at h1
      cases h1
      exact ⟨a, vs, rfl, (.inl (.inl h2)), h3⟩
    · rename_i es hn
      cases h
      cases hi
      obtain ⟨a', vs, h1, h2, h3⟩ := s.lck n _ hn
      rw [ha] at h1
      cases h1
      exact ⟨a, vs, rfl, (.inl (.inl h2)), h3⟩
    · cases h
  | tup es =>
    cases (show R.ok _ g = R.ok e g' from h)
    cases hi
    obtain ⟨a, vs, rfl, h1, h2⟩ := tup_of r
    exact ⟨a, vs, rfl, h1, h2⟩
  | lst es =>
    cases (show R.ok _ g = R.ok e g' from h)
    cases hi
    obtain ⟨a, vs, rfl, h1, _, h2⟩ := lst_of r
    exact ⟨a, vs, rfl, (.inl (.inl h1)), h2⟩
  | scr ns =>
    cases (show R.ok _ g = R.ok e g' from h)
    cases hi
    obtain ⟨a, rfl, h1⟩ := scr_of r
    exact ⟨a, _, rfl, h1.sqL, RepL.ints⟩
  | _ =>
    cases (show R.ok _ g = R.ok e g' from h)
    cases hi
theorem deref_same {d e : D} {g g' : G} (h : deref d g = .ok e g') : g' = g := by
  cases d with
  | ref n =>
    rw [deref_ref] at h
    split at h <;> cases h <;> rfl
  | _ => cases (show R.ok _ g = R.ok e g' from h); rfl
/-- a thing walked: its items -/
theorem walk_full {c : CF} {α β : Type} {rep : RC → α → β → Prop} {H : Hp} {g : G} {m : List Addr} {d : D} {x : V} {k : List D → M α} {Q : β → Hp → Prop} (s : SR c.F H g m) (r1 : Rep (c.F.rc H g m) d x)
    (h : WP rep c H g m (bnd (deref d) (fun e => match itemsO e with | some ds => k ds | none => bot) g) Q) :
    ∃ a vs ds, x = .ref a ∧ (SqT c.F.K H a vs ∨ SqL c.F.K H a vs) ∧ RepL (c.F.rc H g m) ds vs ∧ WP rep c H g m (k ds g) Q := by
  unfold bnd at h
  cases e1 : deref d g with
  | ok a g1 =>
    have eg := deref_same e1
    subst eg
    rw [e1] at h
    dsimp only at h
    cases e2 : itemsO a with
    | none =>
      rw [e2] at h
      exact h.elim
    | some ds =>
      rw [e2] at h
      obtain ⟨p, vs, rfl, h1, h2⟩ := item_full s r1 e1 e2
      refine ⟨p, vs, ds, rfl, ?_, h2, h⟩
      split at h1
      · exact .inl h1
      · exact .inr h1
  | err _ _ => exact absurd e1 deref_ne
  | bot =>
    rw [e1] at h
    exact h.elim
section
variable {X : Cx} {c : CF}
theorem cl_len (hK : X.K = c.F.K) : CallR X (.builtin "len") (rC c (un lenD)) := by
  refine CallR_imp (call_len_str.or (call_len_seq.or call_lenD)) fun xs H Q hh => ?_
  obtain ⟨g, m, d, x, rfl, s, r, h⟩ := un_v hh
  obtain ⟨a, z, q, e, h⟩ := rd1_v s r h
  cases a with
  | str z =>
    rw [str_of q]
    simp only [lenO] at e
    split at e
    · rename_i hz
      cases e
      exact .inl ⟨z, rfl, le_lim hz, WP_ret s h rep_int⟩
    · cases e
  | tup ds =>
    cases e
    obtain ⟨p, vs, rfl, h1, h2⟩ := tup_of q
    exact .inr (.inl ⟨p, vs, rfl, .inr (by rw [hK]; exact h1), by rw [h2.length]; exact WP_ret s h rep_int⟩)
  | lst ds =>
    cases e
    obtain ⟨p, vs, rfl, h1, _, h2⟩ := lst_of q
    exact .inr (.inl ⟨p, vs, rfl, .inl (.inl (.inl h1)), by rw [h2.length]; exact WP_ret s h rep_int⟩)
  | scr ns =>
    cases e
    obtain ⟨p, rfl, h1⟩ := scr_of q
    exact .inr (.inl ⟨p, _, rfl, .inl (by rw [hK]; exact h1.sqL), by rw [List.length_map]; exact WP_ret s h rep_int⟩)
  | dic ks ds =>
    cases e
    simp only [Rep] at q
    obtain ⟨p, vs, rfl, h1, h2, h3⟩ := q
    refine .inr (.inr ⟨p, _, rfl, h1, ?_⟩)
    have e : (ks.zip vs).length = ks.length := by rw [List.length_zip, h2, Nat.min_self]
    rw [e]
    exact WP_ret s h rep_int
  | _ => cases e
theorem cl_all (hc : X.calm = true) (hK : X.K = c.F.K) : CallR X (.builtin "all") (rC c (un allD)) := by
  refine CallR_imp (cr_all hc) fun xs H Q hh => ?_
  obtain ⟨g, m, d, x, rfl, s, r, h⟩ := un_v hh
  obtain ⟨a, z, q, e, h⟩ := rd1_v s r h
  cases a with
  | lst ds =>
    obtain ⟨bs, e1, rfl⟩ := Option.map_eq_some_iff.mp (show (toBools ds).map _ = some z from e)
    obtain ⟨p, vs, rfl, h1, _, h2⟩ := lst_of q
    have e1 := toBools_v h2 e1
    subst e1
    exact ⟨p, bs, rfl, .inl (.inl h1), WP_ret s h rep_bl⟩
  | _ => cases e
theorem cl_any (hc : X.calm = true) (hK : X.K = c.F.K) : CallR X (.builtin "any") (rC c (un anyD)) := by
  refine CallR_imp (cr_any hc) fun xs H Q hh => ?_
  obtain ⟨g, m, d, x, rfl, s, r, h⟩ := un_v hh
  obtain ⟨a, z, q, e, h⟩ := rd1_v s r h
  cases a with
  | lst ds =>
    obtain ⟨bs, e1, rfl⟩ := Option.map_eq_some_iff.mp (show (toBools ds).map _ = some z from e)
    obtain ⟨p, vs, rfl, h1, _, h2⟩ := lst_of q
    have e1 := toBools_v h2 e1
    subst e1
    exact ⟨p, bs, rfl, .inl (.inl h1), WP_ret s h rep_bl⟩
  | _ => cases e
theorem cl_sum (hc : X.calm = true) (hK : X.K = c.F.K) : CallR X (.builtin "sum") (rC c (un sumD)) := by
  refine CallR_imp (cr_sum hc) fun xs H Q hh => ?_
  obtain ⟨g, m, d, x, rfl, s, r, h⟩ := un_v hh
  obtain ⟨a, z, q, e, h⟩ := rd1_v s r h
  cases a with
  | lst ds =>
    obtain ⟨bs, e1, rfl⟩ := Option.map_eq_some_iff.mp (show (toInts ds).map _ = some z from e)
    obtain ⟨p, vs, rfl, h1, _, h2⟩ := lst_of q
    have e1 := toInts_v h2 e1
    subst e1
    exact ⟨p, bs, rfl, .inl (.inl h1), WP_ret s h rep_int⟩
  | _ => cases e
/-- a cell's items, as they are -/
theorem cell_of {F : FX} {H : Hp} {g : G} {m : List Addr} {n : Nat} {v : V} {ds : List D} (s : SR F H g m) (r : Rep (F.rc H g m) (.ref n) v) (e : g[n]? = some (.lst ds)) : ∃ a vs, v = .ref a ∧ m[n]? = some a ∧ H a = some (.lst vs) ∧ RepL (F.rc H g m) ds vs := by
  obtain ⟨a, rfl, ha⟩ := ref_of r
  have ha : m[n]? = some a := ha
  obtain ⟨a', vs, h1, h2, h3⟩ := s.lst n ds e
  rw [ha] at h1
  cases h1
  exact ⟨a, vs, rfl, ha, h2, h3⟩
theorem cl_tuple (hK : X.K = c.F.K) : CallR X (.type "tuple") (rC c (un tupD)) := by
  refine CallR_imp call_tuple_of fun xs H Q hh => ?_
  obtain ⟨g, m, d, x, rfl, s, r, h⟩ := un_v hh
  obtain ⟨p, vs, ds, rfl, h1, h2, h⟩ := walk_full s r h
  rcases h1 with h1 | h1
  · exact ⟨p, vs, rfl, .inr ⟨by rw [hK]; exact h1, WP_ret s h (by simp only [Rep]; exact ⟨p, vs, rfl, h1, h2⟩)⟩⟩
  · exact ⟨p, vs, rfl, .inl ⟨by rw [hK]; exact h1, fun l hl => WP_new s h hl (Rep_tup_new s hl h2)⟩⟩
theorem cl_list (hK : X.K = c.F.K) : CallR X (.type "list") (rC c (un lstD)) := by
  refine CallR_imp call_list_of fun xs H Q hh => ?_
  obtain ⟨g, m, d, x, rfl, s, r, h⟩ := un_v hh
  obtain ⟨p, vs, ds, rfl, h1, h2, h⟩ := walk_full s r h
  refine ⟨p, vs, rfl, ?_, fun l hl => WP_new s h hl (Rep_lst_new s hl h2)⟩
  rw [hK]
  exact h1.symm
theorem cl_int : CallR X (.type "int") (rC c (un intD)) := by
  refine CallR_imp call_int1 fun xs H Q hh => ?_
  obtain ⟨g, m, d, x, rfl, s, r, h⟩ := un_v hh
  unfold intD at h
  split at h
  · rw [int_of r]
    exact .inl ⟨_, rfl, WP_ret s h rep_int⟩
  · rw [bl_of r]
    exact .inr ⟨_, rfl, WP_ret s h rep_int⟩
  · exact h.elim
theorem cl_abs : CallR X (.builtin "abs") (rC c (un absD)) := by
  refine CallR_imp call_abs fun xs H Q hh => ?_
  obtain ⟨g, m, d, x, rfl, s, r, h⟩ := un_v hh
  unfold absD at h
  split at h
  · rw [int_of r]
    exact ⟨_, rfl, WP_ret s h rep_int⟩
  · exact h.elim
theorem cl_max2 (hc : X.calm = true) : CallR X (.builtin "max") (rC c (bi max2D)) := by
  refine CallR_imp (call_max2 hc) fun xs H Q hh => ?_
  obtain ⟨g, m, d, e, x, y, rfl, s, r1, r2, h⟩ := bi_v hh
  unfold max2D at h
  split at h
  · rw [int_of r1, int_of r2]
    exact ⟨_, _, rfl, WP_ret s h rep_int⟩
  · exact h.elim
theorem cl_min2 (hc : X.calm = true) : CallR X (.builtin "min") (rC c (bi min2D)) := by
  refine CallR_imp (call_min2 hc) fun xs H Q hh => ?_
  obtain ⟨g, m, d, e, x, y, rfl, s, r1, r2, h⟩ := bi_v hh
  unfold min2D at h
  split at h
  · rw [int_of r1, int_of r2]
    exact ⟨_, _, rfl, WP_ret s h rep_int⟩
  · exact h.elim
theorem cl_divmod : CallR X (.builtin "divmod") (rC c (bi divmodD)) := by
  refine CallR_imp call_divmodW fun xs H Q hh => ?_
  obtain ⟨g, m, d, e, x, y, rfl, s, r1, r2, h⟩ := bi_v hh
  unfold divmodD at h
  split at h
  · split at h
    · rename_i hz
      rw [int_of r1, int_of r2]
      refine ⟨_, _, rfl, divOk_of hz, fun p hp => WP_new s h hp (Rep_tup_new s hp ?_)⟩
      rw [RepL.cons]
      refine ⟨_, _, rfl, rep_int, ?_⟩
      rw [RepL.cons]
      exact ⟨_, _, rfl, rep_int, by rw [RepL.nil]⟩
    · exact h.elim
  · exact h.elim
theorem cl_gcd : CallR X (.builtin "math.gcd") (rC c (bi gcdD)) := by
  refine CallR_imp cr_gcd fun xs H Q hh => ?_
  obtain ⟨g, m, d, e, x, y, rfl, s, r1, r2, h⟩ := bi_v hh
  unfold gcdD at h
  split at h
  · rw [int_of r1, int_of r2]
    exact ⟨_, _, rfl, WP_ret s h rep_int⟩
  · exact h.elim
end

/-! ### isinstance of built-in classes -/
def tyO : D → Option String
  | .non => some "NoneType"
  | .bl _ => some "bool"
  | .int _ => some "int"
  | .str _ => some "str"
  | .tup _ => some "tuple"
  | .lst _ => some "list"
  | .scr _ => some "list"
  | .dic _ _ => some "dict"
  | _ => none
def isiD (T : String) (d : D) : M D := bnd (deref d) fun d => match tyO d with
  | some t => match kitB t T with
    | some b => ret (.bl b)
    | none => bot
  | none => bot
theorem ty_v {F : FX} {H : Hp} {m : List Addr} {d : D} {v : V} {t : String} (r : Rep (F.rd H m) d v) (e : tyO d = some t) : TyX F.K H v (.type t) := by
  cases d with
  | non => rw [non_of r]; cases e; exact .base .non
  | bl b => rw [bl_of r]; cases e; exact .base (.bl b)
  | int i => rw [int_of r]; cases e; exact .base (.int i)
  | str x => rw [str_of r]; cases e; exact .base (.str x)
  | tup ds =>
    obtain ⟨a, vs, rfl, h1, h2⟩ := tup_of r
    cases e
    rcases h1 with (h1 | ⟨o, h1⟩) | ⟨o, its, n, h1, h2, _⟩
    · exact .base (.tup h1)
    · exact .fTuple h1
    · exact .kTuple h1 h2
  | lst ds =>
    obtain ⟨a, vs, rfl, h1, _, h2⟩ := lst_of r
    cases e
    exact .base (.lst h1)
  | scr ns =>
    obtain ⟨a, rfl, h1⟩ := scr_of r
    cases e
    rcases h1 with ⟨o, h1⟩ | ⟨o, its, n, h1, h2, _⟩
    · exact .base (.frz h1)
    · exact .kList h1 h2
  | dic ks ds =>
    simp only [Rep] at r
    obtain ⟨a, vs, rfl, h1, h2, h3⟩ := r
    cases e
    exact .base (.dK h1)
  | _ => cases e
theorem isi_read {X : Cx} {c : CF} {T : String} {H : Hp} {g : G} {m : List Addr} {d : D} {v : V} {Q : VK} (hK : X.K = c.F.K) (s : SR c.F H g m) (r : Rep (c.F.rc H g m) d v) (h : WP Rep c H g m (isiD T d g) Q) : rIsi X.K [v, .ty T] H Q := by
  obtain ⟨a, q, h⟩ := read1 s r h
  cases et : tyO a with
  | none =>
    rw [et] at h
    exact h.elim
  | some t =>
    rw [et] at h
    dsimp only at h
    cases eb : kitB t T with
    | none =>
      rw [eb] at h
      exact h.elim
    | some b =>
      rw [eb] at h
      exact ⟨v, .ty T, .type t, .type T, b, rfl, .ty T, by rw [hK]; exact ty_v q et, kit_ty eb, WP_ret s h rep_bl⟩

/-! ### places, slices -/
def idxO (e : D) (i : Int) : Option D := match e with
  | .str x => if x.length ≤ lim then (atI x.cps.toList i).map fun ch => .str ⟨#[ch]⟩ else none
  | e => match itemsO e with
    | some ds => atI ds i
    | none => none
def idxD (d i : D) : M D := match i with
  | .int i => bnd (deref d) fun e => ofO (idxO e i)
  | _ => bot
theorem atI_v {C : RC} {ds : List D} {vs : List V} {i : Int} {d : D} (r : RepL C ds vs) (h : atI ds i = some d) : ∃ v, atI vs i = some v ∧ Rep C d v := by
  unfold atI at h ⊢
  rw [r.length]
  cases e : ixN ds.length i with
  | none =>
    rw [e] at h
    cases h
  | some j =>
    rw [e] at h
    exact r.get (show ds[j]? = some d from h)
def cutL {a : Type} (xs : List a) (lo hi : Option Int) : List a := (xs.drop (HT.sIx xs.length 0 lo)).take (HT.sIx xs.length xs.length hi - HT.sIx xs.length 0 lo)
theorem cut_v {C : RC} {ds : List D} {vs : List V} {lo hi : Option Int} (r : RepL C ds vs) : RepL C (cutL ds lo hi) (cutV vs lo hi) := by
  unfold cutL cutV
  rw [r.length]
  exact (r.drop _).take _
def slO (e : D) (lo hi : Option Int) : Option D := match e with
  | .tup ds => some (.tup (cutL ds lo hi))
  | .lst ds => some (.lst (cutL ds lo hi))
  | .scr ns => some (.lst ((cutL ns lo hi).map .int))
  | .str x => if x.length ≤ lim then some (.str (cutS x lo hi)) else none
  | _ => none
def slD (d : D) (lo hi : Option Int) : M D := bnd (deref d) fun e => ofO (slO e lo hi)
theorem cutL_map {a b : Type} (f : a → b) (xs : List a) (lo hi : Option Int) : cutL (xs.map f) lo hi = (cutL xs lo hi).map f := by
  unfold cutL
  rw [List.length_map, List.map_take, List.map_drop]
def rSl3 (c : CF) : V → Option Int → Option Int → Hp → VK → Prop := fun x lo hi H Q => ∃ g m d, SR c.F H g m ∧ Rep (c.F.rc H g m) d x ∧ WP Rep c H g m (slD d lo hi g) Q
theorem SlR_imp {X : Cx} {r r' : V → Option Int → Option Int → Hp → VK → Prop} (h : SlR X r) (i : ∀ x lo hi H Q, r' x lo hi H Q → r x lo hi H Q) : SlR X r' := by
  intro pins s σ H x v vl vu lo hi sl Q I rx hs pl pu q
  exact h pins s σ H x v vl vu lo hi sl Q I rx hs pl pu (i _ _ _ _ _ q)
theorem cutV_map {a : Type} (f : a → V) (xs : List a) (lo hi : Option Int) : cutV (xs.map f) lo hi = (cutL xs lo hi).map f := by
  unfold cutV cutL
  rw [List.length_map, List.map_take, List.map_drop]
theorem cutV_whole {xs : List V} {lo hi : Option Int} (h : HT.sIx xs.length 0 lo = 0 ∧ HT.sIx xs.length xs.length hi = xs.length) : cutV xs lo hi = xs := by
  unfold cutV
  rw [h.1, h.2, List.drop_zero, Nat.sub_zero, List.take_length]
theorem sl_D {X : Cx} {c : CF} (hK : X.K = c.F.K) : SlR X (rSl3 c) := by
  refine SlR_imp ((sl_list (X := X)).or ((sl_tupA (X := X)).or (sl_str (X := X)))) fun x lo hi H Q h => ?_
  obtain ⟨g, m, d, s, r, h⟩ := h
  unfold slD bnd at h
  cases e1 : deref d g with
  | ok e g1 =>
    have eg := deref_same e1
    subst eg
    rw [e1] at h
    dsimp only at h
    cases e2 : slO e lo hi with
    | none =>
      rw [e2] at h
      exact h.elim
    | some z =>
      rw [e2] at h
      cases e with
      | tup ds =>
        cases e2
        obtain ⟨p, vs, rfl, h1, h2⟩ := item_full s r e1 rfl
        have h1 : SqT c.F.K H p vs := h1
        refine .inr (.inl ⟨p, vs, rfl, by rw [hK]; exact h1, fun hw => ?_, fun _ l hl => WP_new s h hl (Rep_tup_new s hl (cut_v h2))⟩)
        have e : cutL ds lo hi = ds := by
          have hw' := hw
          rw [h2.length] at hw'
          unfold cutL
          rw [hw'.1, hw'.2, List.drop_zero, Nat.sub_zero, List.take_length]
        rw [e] at h
        exact WP_ret s h (by simp only [Rep]; exact ⟨p, vs, rfl, h1, h2⟩)
      | lst ds =>
        cases e2
        obtain ⟨p, vs, rfl, h1, h2⟩ := item_full s r e1 rfl
        have h1 : SqL c.F.K H p vs := h1
        exact .inl ⟨p, vs, rfl, by rw [hK]; exact h1, fun l hl => WP_new s h hl (Rep_lst_new s hl (cut_v h2))⟩
      | scr ns =>
        cases e2
        obtain ⟨p, vs, rfl, h1, h2⟩ := item_full s r e1 rfl
        have h1 : SqL c.F.K H p vs := h1
        rw [← cutL_map] at h
        exact .inl ⟨p, vs, rfl, by rw [hK]; exact h1, fun l hl => WP_new s h hl (Rep_lst_new s hl (cut_v h2))⟩
      | str x =>
        simp only [slO] at e2
        split at e2
        · rename_i hz
          cases e2
          have hv := (deref_ok s r e1).2
          rw [str_of hv]
          exact .inr (.inr ⟨_, rfl, le_lim hz, WP_ret s h rep_str⟩)
        · cases e2
      | _ => cases e2
  | err _ _ => exact absurd e1 deref_ne
  | bot =>
    rw [e1] at h
    exact h.elim
theorem IxR_imp {X : Cx} {r r' : R2} (h : IxR X r) (i : ∀ x y H Q, r' x y H Q → r x y H Q) : IxR X r' := by
  intro value slice pins s σ H x y v u Q I rx ry q hs
  exact h value slice pins s σ H x y v u Q I rx ry (i _ _ _ _ q) hs
theorem ix_D {X : Cx} {c : CF} (hK : X.K = c.F.K) : IxR X (rD c idxD) := by
  refine IxR_imp (ix_seq (X := X)) fun x y H Q h => ?_
  obtain ⟨g, m, d, e, s, r1, r2, h⟩ := h
  cases e with
  | int i =>
    rw [int_of r2]
    unfold idxD bnd at h
    cases e1 : deref d g with
    | ok a g1 =>
      have eg := deref_same e1
      subst eg
      simp only [e1] at h
      cases e2 : idxO a i with
      | none =>
        rw [e2] at h
        exact h.elim
      | some it =>
        rw [e2] at h
        have seq : ∀ {ds : List D}, itemsO a = some ds → atI ds i = some it → rIx X.K x (.int i) H Q := fun {ds} ei ea => by
          obtain ⟨p, vs, rfl, h1, h2⟩ := item_full s r1 e1 ei
          obtain ⟨w, q1, q2⟩ := atI_v h2 ea
          split at h1
          · exact .inr (.inl ⟨p, vs, i, w, rfl, rfl, by rw [hK]; exact h1, q1, WP_ret s h q2⟩)
          · exact .inl ⟨p, vs, i, w, rfl, rfl, by rw [hK]; exact h1, q1, WP_ret s h q2⟩
        cases a with
        | str z =>
          simp only [idxO] at e2
          split at e2
          · rename_i hz
            obtain ⟨ch, ec, rfl⟩ := Option.map_eq_some_iff.mp e2
            have hv := (deref_ok s r1 e1).2
            rw [str_of hv]
            exact .inr (.inr ⟨z, i, ch, rfl, rfl, le_lim hz, ec, WP_ret s h rep_str⟩)
          · cases e2
        | tup ds => exact seq rfl e2
        | lst ds => exact seq rfl e2
        | scr ns => exact seq rfl e2
        | _ => cases e2
    | err _ _ => exact absurd e1 deref_ne
    | bot =>
      simp only [e1] at h
      exact h.elim
  | _ => exact h.elim
end L3
set_option Elab.async false
set_option linter.all false
set_option maxRecDepth 100000
set_option maxHeartbeats 4000000
namespace L3
open PySem PySem.Spec PyProof.Rows L2

/-! ### expressions as functions -/
abbrev EF := Env3 → M D
abbrev AF := Env3 → M (List D)
abbrev TF := Env3 → M Bool
def eBot : EF := fun _ => bot
def tBot : TF := fun _ => bot
def aBot : AF := fun _ => bot
def eVar (i : Nat) : EF := fun env => match env[i]? with
  | some (some d) => ret d
  | _ => bot
def eC (d : D) : EF := fun _ => ret d
def aNil : AF := fun _ => ret []
def aCons (a : EF) (r : AF) : AF := fun env => bnd (a env) fun x => bnd (r env) fun xs => ret (x :: xs)
def fit (ds : List D) (m : M D) : M D := if ds.length ≤ lim then m else bot
def newCell (ds : List D) : M D := fun g => .ok (.ref g.length) (g ++ [.lst ds])
def eTup (a : AF) : EF := fun env => bnd (a env) fun ds => fit ds (ret (.tup ds))
def eLst (a : AF) : EF := fun env => bnd (a env) fun ds => fit ds (ret (.lst ds))
def eNew (a : AF) : EF := fun env => bnd (a env) fun ds => fit ds (newCell ds)
def eBin (f : D → D → M D) (a b : EF) : EF := fun env => bnd (a env) fun x => bnd (b env) fun y => f x y
def eUn (f : D → M D) (a : EF) : EF := fun env => bnd (a env) f
def negD : D → M D
  | .int i => ret (.int (-i))
  | _ => bot
def eNot (a : EF) : EF := fun env => bnd (a env) fun x => bnd (truD x) fun k => ret (.bl (!k))
def eAnd (a b : EF) : EF := fun env => bnd (a env) fun x => bnd (truD x) fun k => if k = true then b env else ret x
def eOr (a b : EF) : EF := fun env => bnd (a env) fun x => bnd (truD x) fun k => if k = true then ret x else b env
def eIf (t : TF) (a b : EF) : EF := fun env => bnd (t env) fun k => if k = true then a env else b env
def blD : D → M Bool
  | .bl k => ret k
  | _ => bot
def eCh (f1 f2 : D → D → M D) (a b c : EF) : EF := fun env => bnd (a env) fun x => bnd (b env) fun y => bnd (f1 x y) fun z => bnd (blD z) fun k => if k = true then bnd (c env) fun w => f2 y w else ret (.bl false)
def eCB (f : List D → M D) (a : AF) : EF := fun env => bnd (a env) f
def eIsi (T : String) (a : EF) : EF := fun env => bnd (a env) (isiD T)
def tBl (a : EF) : TF := fun env => bnd (a env) blD
def tTr (a : EF) : TF := fun env => bnd (a env) truD
def fNot (t : TF) : TF := fun env => bnd (t env) fun k => ret (!k)
def fAnd (t u : TF) : TF := fun env => bnd (t env) fun k => if k = true then u env else ret false
def fOr (t u : TF) : TF := fun env => bnd (t env) fun k => if k = true then ret true else u env
/-- a call of a value that is a def -/
def eCV (call : Nat → List D → M D) (a : EF) (as : AF) : EF := fun env => bnd (a env) fun f => match f with
  | .fn i => bnd (as env) (call i)
  | _ => bot
def pm {α : Type} (perm : List Nat) (us ws : List α) : List α := if us.length = 0 ∧ ws.length = perm.length then perm.filterMap fun j => ws[j]? else []
def eCK (f : List D → M D) (perm : List Nat) (as ks : AF) : EF := fun env => bnd (as env) fun us => bnd (ks env) fun ws => f (pm perm us ws)

section
variable {X : Cx} {c : CF} {a b e o : Expr} {es : List Expr} {fa fb fc : EF} {as : AF} {pos : Pos}
theorem no_bot {α β : Type} {rep : RC → α → β → Prop} {σ : L2.St} {H : Hp} {Q : β → Hp → Prop} (h : tG rep c (fun _ => bot) σ H Q) : False := by
  obtain ⟨_, _, _, _, _, h⟩ := h
  exact h
theorem s_bot : PE X e (tE c eBot) := ⟨fun _ _ _ _ _ _ h => (no_bot h).elim⟩
theorem st_bot : PT X e (tT c tBot) := ⟨fun _ _ _ _ _ _ h => (no_bot h).elim⟩
theorem sw_bot : PW X e (tT c tBot) := ⟨fun _ _ _ _ _ _ _ h => (no_bot h).elim⟩
theorem sa_bot : PA X es (tA c aBot) := ⟨fun _ _ _ _ _ _ _ h => (no_bot h).elim⟩
theorem s_var {i : Nat} {x : Str} (hN : X.N[i]? = some x) (hv : Vis X.env.scope x) (hd : (x == ("__debug__" : Str)) = false) (hcd : (x == ("__classdict__" : Str)) = false) : PE X (.Name x pos) (tE c (eVar i)) :=
  PE_imp (pe_var hN hv hd hcd) fun σ H Q ⟨env, g, m, r, s, h⟩ => by
    unfold eVar at h
    cases q : env[i]? with
    | none =>
      simp only [q] at h
      exact h.elim
    | some o =>
      cases o with
      | none =>
        simp only [q] at h
        exact h.elim
      | some d =>
        simp only [q] at h
        obtain ⟨v, h1, h2⟩ := r.at_ i d q
        exact ⟨v, h1, WP_ret s h h2⟩
theorem s_c {v : V} {d : D} (h : PE X e (tC v)) (r : ∀ H g m, Rep (c.F.rc H g m) d v) : PE X e (tE c (eC d)) :=
  PE_imp h fun σ H Q ⟨env, g, m, r1, s, h⟩ => WP_ret s h (r H g m)
theorem sa_nil : PA X [] (tA c aNil) := PA_imp pa_nil fun σ H Q ⟨env, g, m, r1, s, h⟩ => h [] H m s (Ext.refl H g m) (by rw [RepL.nil])
/-- two in a row -/
theorem tG_bnd2 {α β γ δ ε ζ : Type} {rep : RC → α → β → Prop} {rep1 : RC → γ → δ → Prop} {rep2 : RC → ε → ζ → Prop} {σ : L2.St} {H : Hp} {Q : β → Hp → Prop} {f : Env3 → M γ} {f2 : Env3 → M ε} {k : γ → ε → M α}
    (mono : ∀ {H H' : Hp} {g g' : G} {m m' : List Addr} {x : γ} {v : δ}, Ext H g m H' g' m' → SR c.F H g m → rep1 (c.F.rc H g m) x v → rep1 (c.F.rc H' g' m') x v)
    (h : tG rep c (fun env => bnd (f env) fun x => bnd (f2 env) fun y => k x y) σ H Q) :
    tG rep1 c f σ H fun v H1 => tG rep2 c f2 σ H1 fun w H2 => ∃ g m x y, SR c.F H2 g m ∧ rep1 (c.F.rc H2 g m) x v ∧ rep2 (c.F.rc H2 g m) y w ∧ WP rep c H2 g m (k x y g) Q := by
  obtain ⟨env, g, m, r, s, h⟩ := h
  refine ⟨env, g, m, r, s, (WP.bnd (rep1 := rep1) h).imp fun v H1 h1 => ?_⟩
  obtain ⟨g1, m1, x, s1, e1, r1, h1⟩ := h1
  refine ⟨env, g1, m1, r.ext e1 s, s1, (WP.bnd (rep1 := rep2) h1).imp fun w H2 h2 => ?_⟩
  obtain ⟨g2, m2, y, s2, e2, r2, h2⟩ := h2
  exact ⟨g2, m2, x, y, s2, mono e2 s1 r1, r2, h2⟩
theorem sa_cons (ha : PE X e (tE c fa)) (hr : PA X es (tA c as)) (hs : starEach (e :: es) X.env = (false, eval e X.env) :: starEach es X.env) : PA X (e :: es) (tA c (aCons fa as)) :=
  PA_imp (pa_cons ha hr hs) fun σ H Q h => by
    have h2 := tG_bnd2 (rep1 := Rep) (rep2 := RepL) (fun e s r => Rep.ext e s r) h
    obtain ⟨env, g, m, r, s, h3⟩ := h2
    refine ⟨env, g, m, r, s, h3.imp fun v H1 h4 => ?_⟩
    obtain ⟨env, g, m, r, s, h5⟩ := h4
    refine ⟨env, g, m, r, s, h5.imp fun w H2 h6 => ?_⟩
    obtain ⟨g, m, x, y, s, r1, r2, h7⟩ := h6
    exact h7 (v :: w) H2 m s (Ext.refl _ _ _) (by rw [RepL.cons]; exact ⟨v, w, rfl, r1, r2⟩)
theorem fit_ok {α β : Type} {rep : RC → D → β → Prop} {H : Hp} {g : G} {m : List Addr} {ds : List D} {k : M D} {Q : β → Hp → Prop} (h : WP rep c H g m (fit ds k g) Q) : ds.length ≤ lim ∧ WP rep c H g m (k g) Q := by
  unfold fit at h
  split at h
  · exact ⟨by assumption, h⟩
  · exact h.elim
theorem s_tup {x1} (h : PA X es (tA c as)) : PE X (.Tuple es x1 pos) (tE c (eTup as)) :=
  PE_imp (pe_tup h) fun σ H Q h => by
    obtain ⟨env, g, m, r, s, h⟩ := h
    refine ⟨env, g, m, r, s, (WP.bnd (rep1 := RepL) h).imp fun vs H1 h1 => ?_⟩
    obtain ⟨g1, m1, ds, s1, e1, r1, h1⟩ := h1
    obtain ⟨hl, h1⟩ := fit_ok (α := Unit) h1
    refine ⟨by rw [r1.length]; exact le_lim hl, fun p hp => WP_new s1 h1 hp (Rep_tup_new s1 hp r1)⟩
theorem s_lst (h : PA X es (tA c as)) : PE X (.List es pos) (tE c (eLst as)) :=
  PE_imp (pe_lst h) fun σ H Q h => by
    obtain ⟨env, g, m, r, s, h⟩ := h
    refine ⟨env, g, m, r, s, (WP.bnd (rep1 := RepL) h).imp fun vs H1 h1 => ?_⟩
    obtain ⟨g1, m1, ds, s1, e1, r1, h1⟩ := h1
    obtain ⟨hl, h1⟩ := fit_ok (α := Unit) h1
    refine ⟨by rw [r1.length]; exact le_lim hl, fun p hp => WP_new s1 h1 hp (Rep_lst_new s1 hp r1)⟩
theorem newCell_ok {H : Hp} {g : G} {m : List Addr} {ds : List D} {vs : List V} {Q : VK} {p : Addr} (s : SR c.F H g m) (r : RepL (c.F.rc H g m) ds vs) (hp : H p = none) (h : WP Rep c H g m (newCell ds g) Q) : Q (.ref p) (upd H p (.lst vs)) := by
  obtain ⟨s2, e2, hn⟩ := s.cell hp r
  refine h (.ref p) _ _ s2 e2 ?_
  simp only [Rep]
  exact ⟨p, rfl, hn⟩
theorem s_new (h : PA X es (tA c as)) : PE X (.List es pos) (tE c (eNew as)) :=
  PE_imp (pe_lst h) fun σ H Q h => by
    obtain ⟨env, g, m, r, s, h⟩ := h
    refine ⟨env, g, m, r, s, (WP.bnd (rep1 := RepL) h).imp fun vs H1 h1 => ?_⟩
    obtain ⟨g1, m1, ds, s1, e1, r1, h1⟩ := h1
    obtain ⟨hl, h1⟩ := fit_ok (α := Unit) h1
    refine ⟨by rw [r1.length]; exact le_lim hl, fun p hp => newCell_ok s1 r1 hp h1⟩
theorem bin_pre {f : D → D → M D} {σ : L2.St} {H : Hp} {Q : VK} (h : tE c (eBin f fa fb) σ H Q) : tOp (rD c f) (tE c fa) (tE c fb) σ H Q := by
  have h2 := tG_bnd2 (rep1 := Rep) (rep2 := Rep) (fun e s r => Rep.ext e s r) h
  obtain ⟨env, g, m, r, s, h3⟩ := h2
  refine ⟨env, g, m, r, s, h3.imp fun v H1 h4 => ?_⟩
  obtain ⟨env, g, m, r, s, h5⟩ := h4
  refine ⟨env, g, m, r, s, h5.imp fun w H2 h6 => ?_⟩
  obtain ⟨g, m, x, y, s, r1, r2, h7⟩ := h6
  exact ⟨g, m, x, y, s, r1, r2, h7⟩
theorem s_bin {op : Operator} {f : D → D → M D} (ho : OpR X (binaryOp op) (rD c f)) (ha : PE X a (tE c fa)) (hb : PE X b (tE c fb)) : PE X (.BinOp a op b pos) (tE c (eBin f fa fb)) :=
  PE_imp (pe_op ho ha hb) fun σ H Q h => bin_pre h
theorem s_cmp {op : CmpOp} {f : D → D → M D} (ho : OpR X (compareOp op) (rD c f)) (ha : PE X a (tE c fa)) (hb : PE X b (tE c fb)) (hm : behindInMarks op b = false) : PE X (.Compare a [op] [b] pos) (tE c (eBin f fa fb)) :=
  PE_imp (pe_cmpR ho ha hb hm) fun σ H Q h => bin_pre h
theorem s_ix (hK : X.K = c.F.K) (ha : PE X a (tE c fa)) (hb : PE X b (tE c fb)) (hs : PlainIx b) : PE X (.Subscript a b pos) (tE c (eBin idxD fa fb)) :=
  PE_imp (pe_ix (ix_D hK) ha hb hs) fun σ H Q h => bin_pre h
theorem blD_ok {H : Hp} {g : G} {m : List Addr} {z : D} {v : V} {Q : Bool → Hp → Prop} (s : SR c.F H g m) (r : Rep (c.F.rc H g m) z v) (h : WP RepB c H g m (blD z g) Q) : ∃ k, v = .bl k ∧ Q k H := by
  cases z with
  | bl k => exact ⟨k, bl_of r, h k H m s (Ext.refl _ _ _) rfl⟩
  | _ => exact h.elim
theorem tbl_pre {t : TE} {σ : L2.St} {H : Hp} {Q : Bool → Hp → Prop} (h : tT c (tBl fa) σ H Q) : tTest (tE c fa) σ H Q := by
  obtain ⟨env, g, m, r, s, h⟩ := h
  refine ⟨env, g, m, r, s, (WP.bnd (rep1 := Rep) h).imp fun v H1 h1 => ?_⟩
  obtain ⟨g1, m1, z, s1, e1, r1, h1⟩ := h1
  obtain ⟨k, e2, q⟩ := blD_ok s1 r1 h1
  exact ⟨k, e2, q⟩
theorem st_cmp {op : CmpOp} {f : D → D → M D} (ho : OpR X (compareOp op) (rD c f)) (ha : PE X a (tE c fa)) (hb : PE X b (tE c fb)) (hm : behindInMarks op b = false) : PT X (.Compare a [op] [b] pos) (tT c (tBl (eBin f fa fb))) :=
  PT_imp (pt_cmpR ho ha hb hm) fun σ H Q h => by
    obtain ⟨env, g, m, r, s, h⟩ := h
    refine bin_pre ⟨env, g, m, r, s, (WP.bnd (rep1 := Rep) h).imp fun v H1 h1 => ?_⟩
    obtain ⟨g1, m1, z, s1, e1, r1, h1⟩ := h1
    exact blD_ok s1 r1 h1
theorem ch_pre {f1 f2 : D → D → M D} {σ : L2.St} {H : Hp} {Q : VK} (h : tE c (eCh f1 f2 fa fb fc) σ H Q) : tChain (rD c f1) (rD c f2) (tE c fa) (tE c fb) (tE c fc) σ H Q := by
  obtain ⟨env, g, m, r, s, h⟩ := h
  refine ⟨env, g, m, r, s, (WP.bnd (rep1 := Rep) h).imp fun v H1 h1 => ?_⟩
  obtain ⟨g1, m1, x, s1, e1, r1, h1⟩ := h1
  refine ⟨env, g1, m1, r.ext e1 s, s1, (WP.bnd (rep1 := Rep) h1).imp fun w H2 h2 => ?_⟩
  obtain ⟨g2, m2, y, s2, e2, r2, h2⟩ := h2
  refine ⟨g2, m2, x, y, s2, r1.ext e2 s1, r2, (WP.bnd (rep1 := Rep) h2).imp fun z H3 h3 => ?_⟩
  obtain ⟨g3, m3, zd, s3, e3, r3, h3⟩ := h3
  have h4 := WP.bnd (rep1 := RepB) h3
  have h5 := blD_ok s3 r3 h4
  obtain ⟨k, ek, g4, m4, k', s4, e4, r4, h6⟩ := h5
  have ek' : k = k' := r4
  subst ek'
  refine ⟨k, ek, ?_⟩
  cases k with
  | false =>
    rw [if_neg (by decide)] at h6 ⊢
    exact WP_ret s4 h6 rep_bl
  | true =>
    rw [if_pos rfl] at h6 ⊢
    refine ⟨env, g4, m4, ((r.ext e1 s).ext e2 s1 |>.ext e3 s2).ext e4 s3, s4, (WP.bnd (rep1 := Rep) h6).imp fun u H5 h7 => ?_⟩
    obtain ⟨g5, m5, wd, s5, e5, r5, h7⟩ := h7
    exact ⟨g5, m5, y, wd, s5, ((r2.ext e3 s2).ext e4 s3).ext e5 s4, r5, h7⟩
theorem s_chain {cc : Expr} {op op' : CmpOp} {f1 f2 : D → D → M D} (ho : OpR X (compareOp op) (rD c f1)) (ho' : OpR X (compareOp op') (rD c f2)) (ha : PE X a (tE c fa)) (hb : PE X b (tE c fb)) (hc : PE X cc (tE c fc)) (hm : lastMarks [op, op'] [b, cc] = false) :
    PE X (.Compare a [op, op'] [b, cc] pos) (tE c (eCh f1 f2 fa fb fc)) := PE_imp (pe_chain ho ho' ha hb hc hm) fun σ H Q h => ch_pre h
theorem st_chain {cc : Expr} {op op' : CmpOp} {f1 f2 : D → D → M D} (ho : OpR X (compareOp op) (rD c f1)) (ho' : OpR X (compareOp op') (rD c f2)) (ha : PE X a (tE c fa)) (hb : PE X b (tE c fb)) (hc : PE X cc (tE c fc)) (hm : lastMarks [op, op'] [b, cc] = false) :
    PT X (.Compare a [op, op'] [b, cc] pos) (tT c (tBl (eCh f1 f2 fa fb fc))) := PT_imp (pt_chain ho ho' ha hb hc hm) fun σ H Q h => by
    obtain ⟨env, g, m, r, s, h⟩ := h
    refine ch_pre ⟨env, g, m, r, s, (WP.bnd (rep1 := Rep) h).imp fun v H1 h1 => ?_⟩
    obtain ⟨g1, m1, z, s1, e1, r1, h1⟩ := h1
    exact blD_ok s1 r1 h1
theorem st_tru (hK : X.K = c.F.K) (ha : PE X a (tE c fa)) (he : ∀ whole, isTrue a X.env whole = (do let v ← whole; standAt a.pos; holding [v] (truthy v))) : PT X a (tT c (tTr fa)) :=
  PT_imp (pt_truth ha he) fun σ H Q h => by
    obtain ⟨env, g, m, r, s, h⟩ := h
    refine ⟨env, g, m, r, s, (WP.bnd (rep1 := Rep) h).imp fun v H1 h1 => ?_⟩
    obtain ⟨g1, m1, z, s1, e1, r1, h1⟩ := h1
    rw [hK]
    exact tru_read s1 r1 h1
/-- .. whose truth was read -/
theorem tru_bnd {α β : Type} {rep : RC → α → β → Prop} {H : Hp} {g : G} {m : List Addr} {d : D} {v : V} {k : Bool → M α} {Q : β → Hp → Prop} (s : SR c.F H g m) (r : Rep (c.F.rc H g m) d v) (h : WP rep c H g m (bnd (truD d) k g) Q) :
    ∃ b, TruV c.F.K v H b ∧ ∃ g' m', SR c.F H g' m' ∧ Ext H g m H g' m' ∧ WP rep c H g' m' (k b g') Q := by
  have h2 := WP.bnd (rep1 := RepB) h
  obtain ⟨b, t, g1, m1, x, s1, e1, r1, h3⟩ := tru_read s r h2
  have : b = x := r1
  subst this
  exact ⟨b, t, g1, m1, s1, e1, h3⟩
theorem s_not (hK : X.K = c.F.K) (ha : PE X a (tE c fa)) : PE X (.UnaryOp .Not a pos) (tE c (eNot fa)) :=
  PE_imp (pe_notT ha) fun σ H Q h => by
    obtain ⟨env, g, m, r, s, h⟩ := h
    refine ⟨env, g, m, r, s, (WP.bnd (rep1 := Rep) h).imp fun v H1 h1 => ?_⟩
    obtain ⟨g1, m1, z, s1, e1, r1, h1⟩ := h1
    obtain ⟨b, t, g2, m2, s2, e2, h2⟩ := tru_bnd s1 r1 h1
    exact ⟨b, by rw [hK]; exact t, WP_ret s2 h2 rep_bl⟩
theorem s_and {rest : List Expr} (hK : X.K = c.F.K) (ha : PE X a (tE c fa)) (hb : PE X (.BoolOp .And (b :: rest) pos) (tE c fb)) : PE X (.BoolOp .And (a :: b :: rest) pos) (tE c (eAnd fa fb)) :=
  PE_imp (pe_andT ha hb) fun σ H Q h => by
    obtain ⟨env, g, m, r, s, h⟩ := h
    refine ⟨env, g, m, r, s, (WP.bnd (rep1 := Rep) h).imp fun v H1 h1 => ?_⟩
    obtain ⟨g1, m1, z, s1, e1, r1, h1⟩ := h1
    obtain ⟨b, t, g2, m2, s2, e2, h2⟩ := tru_bnd s1 r1 h1
    refine ⟨b, by rw [hK]; exact t, ?_⟩
    cases b with
    | true => exact ⟨env, g2, m2, (r.ext e1 s).ext e2 s1, s2, h2⟩
    | false => exact WP_ret s2 h2 (r1.ext e2 s1)
theorem s_or {rest : List Expr} (hK : X.K = c.F.K) (ha : PE X a (tE c fa)) (hb : PE X (.BoolOp .Or (b :: rest) pos) (tE c fb)) : PE X (.BoolOp .Or (a :: b :: rest) pos) (tE c (eOr fa fb)) :=
  PE_imp (pe_orT ha hb) fun σ H Q h => by
    obtain ⟨env, g, m, r, s, h⟩ := h
    refine ⟨env, g, m, r, s, (WP.bnd (rep1 := Rep) h).imp fun v H1 h1 => ?_⟩
    obtain ⟨g1, m1, z, s1, e1, r1, h1⟩ := h1
    obtain ⟨b, t, g2, m2, s2, e2, h2⟩ := tru_bnd s1 r1 h1
    refine ⟨b, by rw [hK]; exact t, ?_⟩
    cases b with
    | false => exact ⟨env, g2, m2, (r.ext e1 s).ext e2 s1, s2, h2⟩
    | true => exact WP_ret s2 h2 (r1.ext e2 s1)
theorem s_ife {cc : Expr} {t : TF} (hc : PT X cc (tT c t)) (ha : PE X a (tE c fa)) (hb : PE X b (tE c fb)) : PE X (.IfExp cc a b pos) (tE c (eIf t fa fb)) :=
  PE_imp (pe_ifExp hc ha hb) fun σ H Q h => by
    obtain ⟨env, g, m, r, s, h⟩ := h
    refine ⟨env, g, m, r, s, (WP.bnd (rep1 := RepB) h).imp fun v H1 h1 => ?_⟩
    obtain ⟨g1, m1, z, s1, e1, r1, h1⟩ := h1
    have : v = z := r1
    subst this
    cases v with
    | true => exact ⟨env, g1, m1, r.ext e1 s, s1, h1⟩
    | false => exact ⟨env, g1, m1, r.ext e1 s, s1, h1⟩
theorem s_neg (ha : PE X a (tE c fa)) : PE X (.UnaryOp .USub a pos) (tE c (eUn negD fa)) :=
  PE_imp (pe_un un_neg ha) fun σ H Q h => by
    obtain ⟨env, g, m, r, s, h⟩ := h
    refine ⟨env, g, m, r, s, (WP.bnd (rep1 := Rep) h).imp fun v H1 h1 => ?_⟩
    obtain ⟨g1, m1, z, s1, e1, r1, h1⟩ := h1
    cases z with
    | int i => exact ⟨i, int_of r1, WP_ret s1 h1 rep_int⟩
    | _ => exact h1.elim
/-! tests -/
theorem st_not {t : TF} (ha : PT X a (tT c t)) : PT X (.UnaryOp .Not a pos) (tT c (fNot t)) :=
  PT_imp (pt_not ha) fun σ H Q h => by
    obtain ⟨env, g, m, r, s, h⟩ := h
    refine ⟨env, g, m, r, s, (WP.bnd (rep1 := RepB) h).imp fun v H1 h1 => ?_⟩
    obtain ⟨g1, m1, z, s1, e1, r1, h1⟩ := h1
    have : v = z := r1
    subst this
    exact h1 (!v) H1 m1 s1 (Ext.refl _ _ _) rfl
theorem sw_and1 {t : TF} (ha : PT X a (tT c t)) : PW X (.BoolOp .And [a] pos) (tT c t) := pw_and1 ha
theorem sw_or1 {t : TF} (ha : PT X a (tT c t)) : PW X (.BoolOp .Or [a] pos) (tT c t) := pw_or1 ha
theorem sw_and {t u : TF} {rest : List Expr} (ha : PT X a (tT c t)) (hb : PW X (.BoolOp .And (b :: rest) pos) (tT c u)) : PW X (.BoolOp .And (a :: b :: rest) pos) (tT c (fAnd t u)) :=
  PW_imp (pw_and ha hb) fun σ H Q h => by
    obtain ⟨env, g, m, r, s, h⟩ := h
    refine ⟨env, g, m, r, s, (WP.bnd (rep1 := RepB) h).imp fun v H1 h1 => ?_⟩
    obtain ⟨g1, m1, z, s1, e1, r1, h1⟩ := h1
    have : v = z := r1
    subst this
    cases v with
    | true => exact ⟨env, g1, m1, r.ext e1 s, s1, h1⟩
    | false => exact h1 false H1 m1 s1 (Ext.refl _ _ _) rfl
theorem sw_or {t u : TF} {rest : List Expr} (ha : PT X a (tT c t)) (hb : PW X (.BoolOp .Or (b :: rest) pos) (tT c u)) : PW X (.BoolOp .Or (a :: b :: rest) pos) (tT c (fOr t u)) :=
  PW_imp (pw_or ha hb) fun σ H Q h => by
    obtain ⟨env, g, m, r, s, h⟩ := h
    refine ⟨env, g, m, r, s, (WP.bnd (rep1 := RepB) h).imp fun v H1 h1 => ?_⟩
    obtain ⟨g1, m1, z, s1, e1, r1, h1⟩ := h1
    have : v = z := r1
    subst this
    cases v with
    | false => exact ⟨env, g1, m1, r.ext e1 s, s1, h1⟩
    | true => exact h1 true H1 m1 s1 (Ext.refl _ _ _) rfl
/-! calls -/
theorem cb_pre {f : List D → M D} {σ : L2.St} {H : Hp} {Q : VK} (h : tE c (eCB f as) σ H Q) : tCB (rC c f) (tA c as) σ H Q := by
  obtain ⟨env, g, m, r, s, h⟩ := h
  refine ⟨env, g, m, r, s, (WP.bnd (rep1 := RepL) h).imp fun v H1 h1 => ?_⟩
  obtain ⟨g1, m1, ds, s1, e1, r1, h1⟩ := h1
  exact ⟨g1, m1, ds, s1, r1, h1⟩
/-- what a def promises -/
def spD (F : FX) (Y : XF) (call : Nat → List D → M D) (i n : Nat) : Sp := fun vs H Q E => vs.length = n ∧ ∃ (rs : Addr → Prop) (g : G) (m : List Addr) (ds : List D), SR ⟨F.K, F.fa, rs⟩ H g m ∧ RepL (FX.rc ⟨F.K, F.fa, rs⟩ H g m) ds vs ∧ WP Rep ⟨⟨F.K, F.fa, rs⟩, Y, E⟩ H g m (call i ds g) Q
/-- .. a call of fewer or more is none -/
def Arity (call : Nat → List D → M D) (i n : Nat) : Prop := ∀ ds, ds.length ≠ n → call i ds = bot
theorem sp_of {call : Nat → List D → M D} {i n : Nat} (ar : Arity call i n) {vs : List V} {H : Hp} {Q : VK} {g : G} {m : List Addr} {ds : List D} (s : SR c.F H g m) (r : RepL (c.F.rc H g m) ds vs) (h : WP Rep c H g m (call i ds g) Q) : spD c.F c.Y call i n vs H Q c.E := by
  by_cases hl : ds.length = n
  · exact ⟨by rw [r.length]; exact hl, c.F.rs, g, m, ds, s, r, h⟩
  · rw [ar ds hl] at h
    exact h.elim
structure FnH (X : Cx) (c : CF) (call : Nat → List D → M D) (kw : List ((Nat × List Str) × List Nat)) (i : Nat) (a : Addr) : Prop where
  ex : ∃ (k : Nat) (fd : FuncData) (ps : List Str), FnOk X.prog X.w X.K X.mg X.base (L2.CX X.prog X.w) k a fd ps (spD c.F c.Y call i ps.length) ∧ Room k X.A ∧ PySem.W.keepIn X.K (.ref a) = true ∧ Binds X.K fd ps [] ∧ Arity call i ps.length ∧
    ∀ ks perm, kw.lookup (i, ks) = some perm → KBinds X.K fd ps ks (pm perm) (pm perm)
theorem s_call {x : Str} {i : Nat} {ad : Addr} {p : Pos} {call : Nat → List D → M D} {kw} (F : FnH X c call kw i ad) (hx : Passes (L2.CX X.prog X.w) X c.E) (hg : Gl X x) (hm : X.mg x = some (.ref ad)) (ha : PA X (e :: es) (tA c as)) (hdb : (x == ("__debug__" : Str)) = false)
    (he : starEach (e :: es) X.env = (false, eval e X.env) :: starEach es X.env) (hpl : (backTo pos (starEach es X.env)).any (·.1) = false) : PE X (.Call (.Name x p) (e :: es) [] pos) (tE c (eCB (call i) as)) := by
  obtain ⟨k, fd, ps, F, hr, hk, hb, ar, _⟩ := F.ex
  refine PE_imp (pe_call F hr hg hm hk hb .nil hx ha hdb he hpl) fun σ H Q h => ?_
  obtain ⟨env, g, m, r, s, h⟩ := h
  refine ⟨env, g, m, r, s, (WP.bnd (rep1 := RepL) h).imp fun v H1 h1 => ?_⟩
  obtain ⟨g1, m1, ds, s1, e1, r1, h1⟩ := h1
  rw [List.append_nil]
  exact sp_of ar s1 r1 h1
theorem s_call0 {x : Str} {i : Nat} {ad : Addr} {p : Pos} {call : Nat → List D → M D} {kw} (F : FnH X c call kw i ad) (hx : Passes (L2.CX X.prog X.w) X c.E) (hg : Gl X x) (hm : X.mg x = some (.ref ad)) (hdb : (x == ("__debug__" : Str)) = false) :
    PE X (.Call (.Name x p) [] [] pos) (tE c (eCB (call i) aNil)) := by
  obtain ⟨k, fd, ps, F, hr, hk, hb, ar, _⟩ := F.ex
  refine PE_imp (pe_call0 F hr hg hm hk hb .nil hx hdb) fun σ H Q h => ?_
  obtain ⟨env, g, m, r, s, h⟩ := h
  exact sp_of (ds := []) ar s (by rw [RepL.nil]; rfl) h
/-- a slot that holds a def -/
theorem s_callV {x : Str} {i : Nat} {p : Pos} {call : Nat → List D → M D} {kw} (F : ∀ j a, c.F.fa j = some a → FnH X c call kw j a) (hx : Passes (L2.CX X.prog X.w) X c.E) (hN : X.N[i]? = some x) (hv : Vis X.env.scope x) (ha : PA X (e :: es) (tA c as)) (hdb : (x == ("__debug__" : Str)) = false) (hcd : (x == ("__classdict__" : Str)) = false)
    (he : starEach (e :: es) X.env = (false, eval e X.env) :: starEach es X.env) (hpl : (backTo pos (starEach es X.env)).any (·.1) = false) : PE X (.Call (.Name x p) (e :: es) [] pos) (tE c (eCV call (eVar i) as)) := by
  refine ⟨fun pins s σ H Q I h => ?_⟩
  obtain ⟨env, g, m, r, sr, h⟩ := h
  unfold eCV eVar at h
  cases q : env[i]? with
  | none =>
    rw [q] at h
    exact h.elim
  | some o =>
    rw [q] at h
    cases o with
    | none => exact h.elim
    | some d =>
      cases d with
      | fn j =>
        obtain ⟨v, e1, e2⟩ := r.at_ i _ q
        simp only [Rep] at e2
        obtain ⟨a, rfl, hfa⟩ := e2
        obtain ⟨k, fd, ps, F1, hr, hk, hb, ar, _⟩ := (F j a hfa).ex
        refine (pe_callL (i := i) (f := a) F1 hr hN hv hk hb .nil hx ha hdb hcd he hpl).run pins s σ H Q I ⟨e1, env, g, m, r, sr, (WP.bnd (rep1 := RepL) h).imp fun v H1 h1 => ?_⟩
        obtain ⟨g1, m1, ds, s1, e1, r1, h1⟩ := h1
        rw [List.append_nil]
        exact sp_of ar s1 r1 h1
      | _ => exact h.elim
/-! keywords -/
theorem sk_nil : PK X [] (tA c aNil) := ⟨fun pos pins s σ H Q I h => pk_nil.run pos pins s σ H Q I (by
  obtain ⟨env, g, m, r1, s, h⟩ := h
  exact h [] H m s (Ext.refl H g m) (by rw [RepL.nil]))⟩
theorem sk_cons {kws : List Keyword} {nm : Option Str} {kpos : Pos} (ha : PE X e (tE c fa)) (hr : PK X kws (tA c as)) : PK X (⟨nm, e, kpos⟩ :: kws) (tA c (aCons fa as)) := ⟨fun pos pins s σ H Q I h => (pk_cons ha hr).run pos pins s σ H Q I (by
    have h2 := tG_bnd2 (rep1 := Rep) (rep2 := RepL) (fun e s r => Rep.ext e s r) h
    obtain ⟨env, g, m, r, s, h3⟩ := h2
    refine ⟨env, g, m, r, s, h3.imp fun v H1 h4 => ?_⟩
    obtain ⟨env, g, m, r, s, h5⟩ := h4
    refine ⟨env, g, m, r, s, h5.imp fun w H2 h6 => ?_⟩
    obtain ⟨g, m, x, y, s, r1, r2, h7⟩ := h6
    exact h7 (v :: w) H2 m s (Ext.refl _ _ _) (by rw [RepL.cons]; exact ⟨v, w, rfl, r1, r2⟩))⟩
theorem RepL.filt {C : RC} {ds : List D} {vs : List V} (r : RepL C ds vs) : ∀ perm : List Nat, RepL C (perm.filterMap fun j => ds[j]?) (perm.filterMap fun j => vs[j]?)
  | [] => by rw [List.filterMap_nil, List.filterMap_nil, RepL.nil]
  | j :: perm => by
    have ih := RepL.filt r perm
    cases q : ds[j]? with
    | none =>
      have q2 : vs[j]? = none := by
        rw [List.getElem?_eq_none_iff] at q ⊢
        rw [r.length]
        exact q
      rw [List.filterMap_cons_none q, List.filterMap_cons_none q2]
      exact ih
    | some d =>
      obtain ⟨v, q2, rv⟩ := r.get q
      rw [List.filterMap_cons_some q, List.filterMap_cons_some q2, RepL.cons]
      exact ⟨v, _, rfl, rv, ih⟩
theorem RepL.pm {C : RC} {us : List D} {vs : List V} {ds : List D} {ws : List V} (perm : List Nat) (r : RepL C us vs) (r2 : RepL C ds ws) : RepL C (pm perm us ds) (pm perm vs ws) := by
  unfold L3.pm
  rw [r.length, r2.length]
  split
  · exact r2.filt perm
  · rw [RepL.nil]
theorem s_callK {x : Str} {i : Nat} {ad : Addr} {p : Pos} {call : Nat → List D → M D} {kw} {kws : List Keyword} {ks : List Str} {ak : AF} {perm : List Nat} (F : FnH X c call kw i ad) (hkw : kw.lookup (i, ks) = some perm) (hx : Passes (L2.CX X.prog X.w) X c.E) (hg : Gl X x) (hm : X.mg x = some (.ref ad)) (hk0 : PK X kws (tA c ak)) (hdb : (x == ("__debug__" : Str)) = false)
    (hall : (backToKw pos (keywordEach kws X.env)).all (·.1.isSome) = true) (hpl : ((backTo pos (starEach [] X.env)).any (·.1) || (backToKw pos (keywordEach kws X.env)).any (·.1.isNone)) = false) (hks : (backToKw pos (keywordEach kws X.env)).filterMap (·.1) = ks) :
    PE X (.Call (.Name x p) [] kws pos) (tE c (eCK (call i) perm aNil ak)) := by
  obtain ⟨k, fd, ps, F, hr, hk, hb, ar, hkb⟩ := F.ex
  have hb2 := hkb ks perm hkw
  refine ⟨fun pins s σ H Q I h => ?_⟩
  refine wpAny_Call_Name_kw (ld_glob I hg hm ?_ hdb)
  refine PySem.W.callWith_KW0 (h₀ := X.base) I.ok.mod.kin hk hall ?_ hpl
  obtain ⟨env, g, m, r, sr, h⟩ := h
  have h2 : WP Rep c H g m (bnd (ak env) (fun ws => call i (pm perm [] ws)) g) Q := h
  have h3 := WP.bnd (rep1 := RepL) h2
  refine thn (hk0.run pos pins s σ H _ I ⟨env, g, m, r, sr, h3⟩) fun ws s2 ⟨zs, H2, I2, rz, q2⟩ => ⟨I2.kIn, ?_⟩
  rw [hks]
  obtain ⟨g1, m1, ds, s1, e1, r1, h1⟩ := q2
  refine run_fnk (us := []) (vs := []) F hr hb2 hx I2 .nil rz ?_
  exact sp_of ar s1 (RepL.pm perm (by rw [RepL.nil]) r1) h1
end
end L3
set_option Elab.async false
set_option linter.all false
set_option maxRecDepth 100000
set_option maxHeartbeats 4000000
namespace L3
open PySem PySem.Spec PyProof.Rows L2

/-! ### zip of two things, each a list or a tuple -/
def SqB (K : PySem.W.Frag) (H : Hp) (k : Bool) (a : Addr) (xs : List V) : Prop := match k with
  | true => SqL K H a xs
  | false => SqT K H a xs
def IsIt (k : Bool) (h : Heap) (it a : Addr) (i : Nat) : Prop := match k with
  | true => h.IsListIter it a i
  | false => h.IsTupleIter it a i
def IsSq (k : Bool) (h : Heap) (a : Addr) (us : Array Value) : Prop := match k with
  | true => h.IsList a us
  | false => h.IsTuple a us
theorem IsIt.at' {k : Bool} {h h' : Heap} {it a : Addr} {i : Nat} (x : IsIt k h it a i) (e : ∀ o, h.get? it = some o → h'.get? it = some o) : IsIt k h' it a i := by
  cases k with
  | true => exact Heap.IsListIter.at x e
  | false => exact Heap.IsTupleIter.at x e
theorem IsIt.obj {k : Bool} {h : Heap} {it a : Addr} {i : Nat} (x : IsIt k h it a i) : ∃ o, h.get? it = some o ∧ ∀ v, o.data ≠ .cell v := by
  cases k with
  | true =>
    obtain ⟨o, e, _, d⟩ := x
    exact ⟨o, e, fun v q => by rw [d] at q; cases q⟩
  | false =>
    obtain ⟨o, e, _, d⟩ := x
    exact ⟨o, e, fun v q => by rw [d] at q; cases q⟩
theorem draws {prog : Program} {w : World} {A : Around} (hh : A.handled = none) (k : Bool) (it l : Addr) (hne : l ≠ it) (items : Array Value) :
    Draws prog w A it [it, l] items.size (fun i v => items[i]? = some v) (fun i h => IsIt k h it l i ∧ IsSq k h l items) := by
  cases k with
  | true => exact Draws.list hh it l hne items
  | false => exact Draws.tuple hh it l hne items
def itO (k : Bool) (a : Addr) : Obj := match k with
  | true => { cls := .type "list_iterator", data := .fields #[.ref a, .int 0 0] }
  | false => { cls := .type "tuple_iterator", data := .fields #[.ref a, .int 0 0] }
theorem begins (k : Bool) (l : Addr) (items : Array Value) : Begins (.ref l) (itO k l) fun h => IsSq k h l items := by
  cases k with
  | true => exact begins_list l items
  | false => exact begins_tuple l items
theorem isIt_new {k : Bool} {h : Heap} {it a : Addr} (e : h.get? it = some (itO k a)) : IsIt k h it a 0 := by
  cases k with
  | true => exact ⟨_, e, rfl, rfl⟩
  | false => exact ⟨_, e, rfl, rfl⟩
section
variable {X : Cx} {pins : List (Addr × Obj)} {σ : L2.St} {H : Hp} {s : Shared} {a : Addr} {xs ys : List V} {k : Bool}
theorem inv_sq (I : Inv X pins σ H s) (h : SqB X.K H k a xs) : ∃ its : List Value, Vals xs its ∧ IsSq k s.heap a its.toArray ∧ a < s.heap.objs.size := by
  cases k with
  | true =>
    obtain ⟨its, rv, p, _⟩ := I.list h
    exact ⟨its, rv, p.isList, p.lt⟩
  | false =>
    obtain ⟨its, rv, p, _⟩ := I.tuple h
    exact ⟨its, rv, (show s.heap.IsTuple a its.toArray from p), by obtain ⟨o, e, _⟩ := id p; exact Heap.lt_size e⟩
theorem inv_sq_inj (I : Inv X pins σ H s) (h : SqB X.K H k a xs) (h' : SqB X.K H k a ys) : xs = ys := by
  cases k with
  | true => exact I.list_inj h h'
  | false => exact I.tuple_inj h h'
end
/-- the two as they stand at each turn, the items in new pairs -/
def ItZ (K : PySem.W.Frag) (k1 k2 : Bool) (a b : Addr) : It :=
  ⟨fun i H => ∃ (xs ys : List V) (x y : V), SqB K H k1 a xs ∧ SqB K H k2 b ys ∧ xs[i]? = some x ∧ ys[i]? = some y,
    fun i H v H' => ∃ T x y, v = .ref T ∧ H T = none ∧ H' = upd H T (.tup [x, y]) ∧ (∀ xs, SqB K H k1 a xs → xs[i]? = some x) ∧ ∀ ys, SqB K H k2 b ys → ys[i]? = some y,
    fun i H => ∃ xs ys : List V, SqB K H k1 a xs ∧ SqB K H k2 b ys ∧ i ≤ xs.length ∧ i ≤ ys.length ∧ (i = xs.length ∨ i = ys.length)⟩
theorem turn_ZZ {P : Program} {w : World} {K : PySem.W.Frag} {elts : List Expr} {kk : Nat} {tpos : Pos} {k1 k2 : Bool} {a b z TI TO i1 i2 : Addr} (S : ZipSep2 z TI TO i1 i2 [i1, a] [i2, b]) (na : a ≠ i1) (nb : b ≠ i2) :
    Turn P w K (.Tuple elts kk tpos) (ItZ K k1 k2 a b) [z, TI, TO, i1, i2] z (fun i h => IsZip h z TI TO .none ∧ IsTupOf2 h TI (.ref i1) (.ref i2) ∧ (∃ x y, IsTupOf2 h TO x y) ∧ IsIt k1 h i1 a i ∧ IsIt k2 h i2 b i) where
  mem := by simp
  obj := fun i h st c hc => by
    obtain ⟨hz, hTI, ⟨x, y, hTO⟩, h1, h2⟩ := st
    have e' : c = z ∨ c = TI ∨ c = TO ∨ c = i1 ∨ c = i2 := by simpa using hc
    rcases e' with q | q | q | q | q
    · rw [q]; exact ⟨_, hz, fun v q => nomatch q⟩
    · rw [q]; exact ⟨_, hTI, fun v q => nomatch q⟩
    · rw [q]; exact ⟨_, hTO, fun v q => nomatch q⟩
    · rw [q]; exact h1.obj
    · rw [q]; exact h2.obj
  keep := fun i h h' st k => by
    obtain ⟨hz, hTI, ⟨x, y, hTO⟩, h1, h2⟩ := st
    exact ⟨k z (by simp) _ hz, k TI (by simp) _ hTI, ⟨x, y, k TO (by simp) _ hTO⟩, h1.at' fun o q => k i1 (by simp) o q, h2.at' fun o q => k i2 (by simp) o q⟩
  item := by
    intro X hP hw hK hc i pins s σ H E I hf st hg
    subst hP hw hK
    obtain ⟨hz, hTI, ⟨x0, y0, hTO⟩, h1, h2⟩ := st
    obtain ⟨xs, ys, x, y, hqx, hqy, hx, hy⟩ := hg
    obtain ⟨its, rv, p, _⟩ := inv_sq I hqx
    obtain ⟨its2, rv2, p2, _⟩ := inv_sq I hqy
    obtain ⟨u, hu, ru⟩ := rv.get hx
    obtain ⟨u2, hu2, ru2⟩ := rv2.get hy
    have hzl : z < s.heap.objs.size := Heap.lt_size hz
    have hh : X.A.in1.handled = none := I.ok.hd hc
    refine wpAny_pyNext_zipD2_item S (draws hh k1 i1 a na its.toArray) (draws hh k2 i2 b nb its2.toArray) hz hTI hTO ⟨h1, p⟩ ⟨h2, p2⟩
      (by have := (List.getElem?_eq_some_iff.mp hu).1; simpa using this) (by have := (List.getElem?_eq_some_iff.mp hu2).1; simpa using this) fun x1 x2 h' tk y1 y2 z' TO' st1 st2 hT hsz hk => ?_
    have ex1 : x1 = u := by
      have : its.toArray[i]? = some u := by simpa using hu
      rw [this] at y1
      exact (Option.some.inj y1).symm
    have ex2 : x2 = u2 := by
      have : its2.toArray[i]? = some u2 := by simpa using hu2
      rw [this] at y2
      exact (Option.some.inj y2).symm
    subst ex1 ex2
    refine ⟨_, rfl, wpAny_letOwnedTupleGo_zip (s := { s with heap := h', toks := tk }) z' fun h'' z'' sb => ?_⟩
    have hT2 : h''.get? s.heap.objs.size = some { cls := .type "tuple", data := .seq #[x1, x2] } := (sb.2 _ (Nat.ne_of_gt hzl)).trans hT
    have new : ObjOk X.prog X.w (upd H s.heap.objs.size (.tup [x, y])) h'' s.heap.objs.size (.tup [x, y]) :=
      ⟨by show 2 ≤ sizeLine; decide, [x1, x2], .cons ru (.cons ru2 .nil), ⟨_, hT2, rfl, _, rfl⟩⟩
    have I1 : Inv X pins σ (upd H s.heap.objs.size (.tup [x, y])) { s with heap := h'', toks := tk } :=
      I.turnedNew (ch := [z, TI, TO, i1, i2]) (fun c o hb q => (sb.2 c (fun q' => hb (by simp [q']))).trans (hk c o (fun q' => hb (by simp [q'])) (fun q' => hb (by simp [q'])) (fun q' => hb (by simp [q'])) (fun q' => hb (by simp [q'])) q)) hf (Nat.le_refl _) new
    refine ⟨.ref s.heap.objs.size, _, I1, rfl, ⟨_, x, y, rfl, I.hok.fresh (Nat.le_refl _), rfl, fun l hl => by rw [inv_sq_inj I hl hqx]; exact hx, fun l hl => by rw [inv_sq_inj I hl hqy]; exact hy⟩, ⟨z'', ?_, ⟨x1, x2, ?_⟩, ?_, ?_⟩, fun c hcm => ?_⟩
    · exact (sb.2 _ S.TIz).trans (hk _ _ S.TIz S.TITO S.TIi1 S.TIi2 hTI)
    · exact (sb.2 _ S.TOz).trans TO'
    · exact st1.1.at' fun o q => (sb.2 _ (Ne.symm S.zi1)).trans q
    · exact st2.1.at' fun o q => (sb.2 _ (Ne.symm S.zi2)).trans q
    · have hlt : c < s.heap.objs.size := by
        have e' : c = z ∨ c = TI ∨ c = TO ∨ c = i1 ∨ c = i2 := by simpa using hcm
        rcases e' with q | q | q | q | q
        · rw [q]; exact hzl
        · rw [q]; exact Heap.lt_size hTI
        · rw [q]; exact Heap.lt_size hTO
        · rw [q]; obtain ⟨_, e1, _⟩ := h1.obj; exact Heap.lt_size e1
        · rw [q]; obtain ⟨_, e2, _⟩ := h2.obj; exact Heap.lt_size e2
      rw [upd_ne (Nat.ne_of_lt hlt)]
      exact (hf c hcm).1
  done := by
    intro X hP hw hK hc i pins s σ H E I hf st hg
    subst hP hw hK
    obtain ⟨hz, hTI, ⟨x0, y0, hTO⟩, h1, h2⟩ := st
    obtain ⟨xs, ys, hqx, hqy, l1, l2, hend⟩ := hg
    obtain ⟨its, rv, p, _⟩ := inv_sq I hqx
    obtain ⟨its2, rv2, p2, _⟩ := inv_sq I hqy
    have e1 := rv.length
    have e2 := rv2.length
    have hh : X.A.in1.handled = none := I.ok.hd hc
    exact wpAny_pyNext_zipD2_end S (draws hh k1 i1 a na its.toArray) (draws hh k2 i2 b nb its2.toArray) hz hTI hTO ⟨h1, p⟩ ⟨h2, p2⟩ (by simp; omega) (by simp; omega) (by simp; omega) fun h' tk hk =>
      ⟨rfl, I.turnedL (ch := [z, TI, TO, i1, i2]) (fun c o hb q => hk c o (fun q' => hb (by simp [q'])) (fun q' => hb (by simp [q'])) (fun q' => hb (by simp [q'])) (fun q' => hb (by simp [q'])) q) hf⟩
  self := fun A i s Q E st h => wpAny_pyIter_zip st.1 h
def iZZ (K : PySem.W.Frag) (ta : TA) : TI := fun σ H R => ta σ H fun vs H1 => ∃ a b k1 k2 xs ys, vs = [.ref a, .ref b] ∧ SqB K H1 k1 a xs ∧ SqB K H1 k2 b ys ∧ R (ItZ K k1 k2 a b) H1
theorem pi_ZZ {X : Cx} {e e2 : Expr} {ta : TA} {p pos tpos : Pos} {elts : List Expr} {kk : Nat} (hg : Gl X "zip") (hm : X.mg "zip" = none) (ha : PA X [e, e2] ta)
    (hs : starEach [e, e2] X.env = (false, eval e X.env) :: starEach [e2] X.env) (hpl : (backTo pos (starEach [e2] X.env)).any (·.1) = false) :
    PI X (.Tuple elts kk tpos) (.Call (.Name "zip" p) [e, e2] [] pos) (iZZ X.K ta) := by
  refine ⟨fun pins s σ H R I h => ?_⟩
  refine Call_ (ld_blt I hg hm PyProof.Rows.boot_zip (PyProof.Rows.callWith_type1 (thn (ha.run pos pins s σ H _ I h) fun us s1 ⟨vs, H1, I1, r1, q1⟩ => ?_) hs hpl))
  obtain ⟨a, b, k1, k2, xs, ys, ex, hqx, hqy, q⟩ := q1
  subst ex
  cases r1 with
  | cons r rr =>
    cases rr with
    | cons r' rr =>
      cases rr
      cases r
      cases r'
      have fresh5 : ∀ c, c ∈ [s1.heap.objs.size + 4, s1.heap.objs.size + 2, s1.heap.objs.size + 3, s1.heap.objs.size, s1.heap.objs.size + 1] → FpOk X pins H1 c := fun c hcm => by
        have e' : c = s1.heap.objs.size + 4 ∨ c = s1.heap.objs.size + 2 ∨ c = s1.heap.objs.size + 3 ∨ c = s1.heap.objs.size ∨ c = s1.heap.objs.size + 1 := by simpa using hcm
        have hle : s1.heap.objs.size ≤ c := by
          rcases e' with z | z | z | z | z
          · rw [z]; exact Nat.le_add_right _ _
          · rw [z]; exact Nat.le_add_right _ _
          · rw [z]; exact Nat.le_add_right _ _
          · rw [z]; exact Nat.le_refl _
          · rw [z]; exact Nat.le_add_right _ _
        exact I1.fpOk hle (I1.hok.fresh hle)
      obtain ⟨its, rv, p1, l1⟩ := inv_sq I1 hqx
      obtain ⟨its2, rv2, p2, l2⟩ := inv_sq I1 hqy
      refine zip_begins2 (begins k1 a its.toArray) (begins k2 b its2.toArray) p1 p2 fun h' hz hTI hTO h1 h2 hsz hk => wpAny_pyIter_zip hz ?_
      have I2 : Inv X pins σ H1 { s1 with heap := h' } := I1.kept (t' := s1.toks) hk
      have one1 : ∀ b', b' ∈ [a] → b' < s1.heap.objs.size := fun b' hb => by
        have : b' = a := by simpa using hb
        rw [this]; exact l1
      have one2 : ∀ b', b' ∈ [b] → b' < s1.heap.objs.size := fun b' hb => by
        have : b' = b := by simpa using hb
        rw [this]; exact l2
      exact ⟨s1.heap.objs.size + 4, [s1.heap.objs.size + 4, s1.heap.objs.size + 2, s1.heap.objs.size + 3, s1.heap.objs.size, s1.heap.objs.size + 1], _, _, H1, rfl, I2, turn_ZZ (zip_sep2 one1 one2) (Nat.ne_of_lt l1) (Nat.ne_of_lt (Nat.lt_succ_of_lt l2)), ⟨hz, hTI, ⟨_, _, hTO⟩, isIt_new h1, isIt_new h2⟩, fresh5, q⟩
/-- a value that is walked: a list, a tuple, a text -/
def iAny (K : PySem.W.Frag) (te : TE) : TI := fun σ H R => te σ H fun x H1 => (∃ a, x = .ref a ∧ (∃ xs, SqL K H1 a xs) ∧ R (Itl K a) H1) ∨ (∃ a, x = .ref a ∧ (∃ xs, SqT K H1 a xs) ∧ R (Itt K a) H1) ∨ ∃ y, x = .str y ∧ R (Its y) H1
theorem pi_any {X : Cx} {tg e : Expr} {te : TE} (he : PE X e te) : PI X tg e (iAny X.K te) := by
  refine ⟨fun pins s σ H R I h => ?_⟩
  refine thn (he.run pins s σ H _ I h) fun v s1 ⟨x, H1, I1, r1, q1⟩ => ?_
  rcases q1 with ⟨a, e, ⟨xs, hq⟩, q⟩ | ⟨a, e, ⟨xs, hq⟩, q⟩ | ⟨y, e, q⟩
  · subst e
    cases r1
    obtain ⟨its, rv, p, hz⟩ := I1.list hq
    refine wpAny_pyIter_list p.isList ?_
    refine ⟨s1.heap.objs.size, [s1.heap.objs.size], _, _, H1, rfl, I1.kept (t' := s1.toks) fun b o e => Heap.get?_push_of_some _ e, turn_list a _, ⟨_, Heap.get?_push_size _ rfl, rfl, rfl⟩, fun b hb => ?_, q⟩
    have e : b = s1.heap.objs.size := by simpa using hb
    subst e
    exact I1.fpOk (Nat.le_refl _) (I1.hok.fresh (Nat.le_refl _))
  · subst e
    cases r1
    obtain ⟨its, rv, p, hz⟩ := I1.tuple hq
    refine wpAny_pyIter_tuple (show s1.heap.IsTuple a its.toArray from p) ?_
    refine ⟨s1.heap.objs.size, [s1.heap.objs.size], _, _, H1, rfl, I1.kept (t' := s1.toks) fun b o e => Heap.get?_push_of_some _ e, turn_tuple a _, ⟨_, Heap.get?_push_size _ rfl, rfl, rfl⟩, fun b hb => ?_, q⟩
    have e : b = s1.heap.objs.size := by simpa using hb
    subst e
    exact I1.fpOk (Nat.le_refl _) (I1.hok.fresh (Nat.le_refl _))
  · subst e
    obtain ⟨t, rfl⟩ := r1
    cases ha : y.cps.all (· < 128)
    · exact wpAny_pyIter_wide ha (pi_one (tk := s1.toks) I1 _ (turn_str _ y t "str_iterator" (.inr rfl)) ⟨_, Heap.get?_push_size _ rfl, rfl, rfl⟩ q)
    · exact wpAny_pyIter_ascii ha (pi_one (tk := s1.toks) I1 _ (turn_str _ y t "str_ascii_iterator" (.inl rfl)) ⟨_, Heap.get?_push_size _ rfl, rfl, rfl⟩ q)
end L3
set_option Elab.async false
set_option linter.all false
set_option maxRecDepth 100000
set_option maxHeartbeats 4000000
namespace L3
open PySem PySem.Spec PyProof.Rows L2

/-! ### other reserved addresses -/
abbrev FX.w (F : FX) (rs : Addr → Prop) : FX := ⟨F.K, F.fa, rs⟩
mutual
theorem Rep.lvto {K : PySem.W.Frag} {fa : Nat → Option Addr} {l l' : Addr → Prop} {m m' : List Addr} {H : Hp} (h : ∀ a, l' a → l a ∨ H a = none) (hm : ∀ (n : Nat) (a : Addr), m[n]? = some a → m'[n]? = some a) : ∀ {d : D} {v : V}, Rep ⟨K, fa, l, m, H⟩ d v → Rep ⟨K, fa, l', m', H⟩ d v
  | .non, v, r => by simp only [Rep] at r ⊢; exact r
  | .bl b, v, r => by simp only [Rep] at r ⊢; exact r
  | .int i, v, r => by simp only [Rep] at r ⊢; exact r
  | .str x, v, r => by simp only [Rep] at r ⊢; exact r
  | .tup ds, v, r => by
    simp only [Rep] at r ⊢
    obtain ⟨a, vs, rfl, h1, h2⟩ := r
    exact ⟨a, vs, rfl, h1, RepL.lvto h hm h2⟩
  | .lst ds, v, r => by
    simp only [Rep] at r ⊢
    obtain ⟨a, vs, rfl, h1, h2, h3⟩ := r
    refine ⟨a, vs, rfl, h1, fun z => ?_, RepL.lvto h hm h3⟩
    rcases h a z with q | q
    · exact h2 q
    · rw [h1] at q
      cases q
  | .scr ns, v, r => by simp only [Rep] at r ⊢; exact r
  | .dic ks ds, v, r => by
    simp only [Rep] at r ⊢
    obtain ⟨a, vs, rfl, h1, h2, h3⟩ := r
    exact ⟨a, vs, rfl, h1, h2, RepL.lvto h hm h3⟩
  | .fn i, v, r => by simp only [Rep] at r ⊢; exact r
  | .exn c ds, v, r => by simp only [Rep] at r
  | .ref n, v, r => by
    simp only [Rep] at r ⊢
    obtain ⟨a, rfl, h1⟩ := r
    exact ⟨a, rfl, hm n a h1⟩
theorem RepL.lvto {K : PySem.W.Frag} {fa : Nat → Option Addr} {l l' : Addr → Prop} {m m' : List Addr} {H : Hp} (h : ∀ a, l' a → l a ∨ H a = none) (hm : ∀ (n : Nat) (a : Addr), m[n]? = some a → m'[n]? = some a) : ∀ {ds : List D} {vs : List V}, RepL ⟨K, fa, l, m, H⟩ ds vs → RepL ⟨K, fa, l', m', H⟩ ds vs
  | [], vs, r => by rw [RepL.nil] at r ⊢; exact r
  | d :: ds, vs, r => by
    rw [RepL.cons] at r ⊢
    obtain ⟨v, vs', rfl, h1, h2⟩ := r
    exact ⟨v, vs', rfl, Rep.lvto h hm h1, RepL.lvto h hm h2⟩
end
/-- rs' says no more than rs, but of addresses that are not there -/
def Less (H : Hp) (rs' rs : Addr → Prop) : Prop := ∀ a, rs' a → rs a ∨ H a = none
theorem Rep.to {F : FX} {rs : Addr → Prop} {H : Hp} {g : G} {m : List Addr} (l : Less H rs F.rs) {d : D} {v : V} (r : Rep (F.rc H g m) d v) : Rep ((F.w rs).rc H g m) d v := Rep.lvto (fun a z => by
  rcases z with z | z
  · exact .inl (.inl z)
  · rcases l a z with q | q
    · exact .inl (.inr q)
    · exact .inr q) (fun _ _ z => z) r
theorem RepL.to {F : FX} {rs : Addr → Prop} {H : Hp} {g : G} {m : List Addr} (l : Less H rs F.rs) {d : List D} {v : List V} (r : RepL (F.rc H g m) d v) : RepL ((F.w rs).rc H g m) d v := RepL.lvto (fun a z => by
  rcases z with z | z
  · exact .inl (.inl z)
  · rcases l a z with q | q
    · exact .inl (.inr q)
    · exact .inr q) (fun _ _ z => z) r
/-- a fresh address is set aside, an object laid there -/
theorem SR.reserve {F : FX} {H : Hp} {g : G} {m : List Addr} {D : Addr} {o : HO} (s : SR F H g m) (hD : H D = none) : SR (F.w fun a => F.rs a ∨ a = D) (upd H D o) g m ∧ Less H (fun a => F.rs a ∨ a = D) F.rs := by
  have l : Less H (fun a => F.rs a ∨ a = D) F.rs := fun a z => z.elim .inl fun q => .inr (by rw [q]; exact hD)
  obtain ⟨s1, e1⟩ := s.new (o := o) hD
  have hl : ∀ a, lv g m a → ∃ vs, H a = some (.lst vs) := fun _ z => lv_lst s z
  refine ⟨⟨s.len, s.inj, fun n ds h => ?_, fun n ds h => ?_, fun n a h => s1.has n a h, fun a z => ?_⟩, l⟩
  · obtain ⟨a, vs, h1, h2, h3⟩ := s.lst n ds h
    obtain ⟨a', vs', h4, h5, _⟩ := s1.lst n ds h
    rw [h1] at h4
    cases h4
    have e2 : upd H D o a = some (.lst vs) := by rw [upd_ne (ne_of_none h2 hD)]; exact h2
    exact ⟨a, vs, h1, e2, RepL.ext0 e1 hl (h3.to l)⟩
  · obtain ⟨a, vs, h1, h2, h3⟩ := s.lck n ds h
    have e2 : upd H D o a = some (.lst vs) := by rw [upd_ne (ne_of_none h2 hD)]; exact h2
    exact ⟨a, vs, h1, e2, RepL.ext0 e1 hl (h3.to l)⟩
  · rcases z with z | z
    · exact s1.rsv a z
    · subst z
      exact ⟨⟨o, upd_same⟩, fun i q => by
        obtain ⟨o', h1⟩ := s.has i _ q
        rw [hD] at h1
        cases h1⟩
/-- fewer are set aside -/
theorem SR.less {F : FX} {rs : Addr → Prop} {H : Hp} {g : G} {m : List Addr} (s : SR F H g m) (l : ∀ a, rs a → F.rs a) : SR (F.w rs) H g m := by
  have l' : Less H rs F.rs := fun a z => .inl (l a z)
  refine ⟨s.len, s.inj, fun n ds h => ?_, fun n ds h => ?_, s.has, fun a z => s.rsv a (l a z)⟩
  · obtain ⟨a, vs, h1, h2, h3⟩ := s.lst n ds h
    exact ⟨a, vs, h1, h2, h3.to l'⟩
  · obtain ⟨a, vs, h1, h2, h3⟩ := s.lck n ds h
    exact ⟨a, vs, h1, h2, h3.to l'⟩

/-! ### what is walked -/
structure Wk where
  its : List D
  ok : G → Prop
abbrev WF := Env3 → M Wk
def RepI (c : CF) (H0 : Hp) (g0 : G) (m0 : List Addr) (w : Wk) (J : It) : Prop := ∀ rs : Addr → Prop, Less H0 rs c.F.rs → ∀ (i : Nat) (H : Hp) (g : G) (m : List Addr), Ext H0 g0 m0 H g m → SR (c.F.w rs) H g m → w.ok g →
  (∀ d, w.its[i]? = some d → J.go i H ∧ ∀ x H', J.yld i H x H' → SR (c.F.w rs) H' g m ∧ Ext H g m H' g m ∧ Rep ((c.F.w rs).rc H' g m) d x) ∧ (i = w.its.length → J.stop i H)
def WPI (c : CF) (H : Hp) (g : G) (m : List Addr) (r : R Wk) (Q : It → Hp → Prop) : Prop := match r with
  | .ok w g' => ∀ J H' m', SR c.F H' g' m' → Ext H g m H' g' m' → RepI c H' g' m' w J → Q J H'
  | .err x g' => ∀ cls dd H' m', SR c.F H' g' m' → Ext H g m H' g' m' → RepX c.Y (c.F.rc H' g' m') x cls dd → c.E cls dd H'
  | .bot => False
def tI (c : CF) (wf : WF) : TI := fun σ H R => ∃ env g m, RE c.F H g m σ env ∧ SR c.F H g m ∧ WPI c H g m (wf env g) R
def wBot : WF := fun _ => bot
def free (ds : List D) : Wk := ⟨ds, fun _ => True⟩
def wkD : D → M Wk
  | .tup ds => ret (free ds)
  | .lst ds => ret (free ds)
  | .scr ns => ret (free (ns.map D.int))
  | .str x => ret (free (x.cps.toList.map fun k => D.str ⟨#[k]⟩))
  | .ref n => fun g => match g[n]? with
    | some (.lst ds) => .ok ⟨ds, fun g => g[n]? = some (.lst ds)⟩ g
    | _ => .bot
  | _ => bot
def wVal (f : EF) : WF := fun env => bnd (f env) wkD
def small62 (i : Int) : Bool := decide (i.natAbs < 2 ^ 62)
def rng1D : List D → M Wk
  | [.int j] => if small62 j = true then ret (free ((List.range j.toNat).map fun k => D.int (k : Nat))) else bot
  | _ => bot
def rng2D : List D → M Wk
  | [.int i, .int j] => if (small62 i && small62 j) = true then ret (free ((List.range (j - i).toNat).map fun k => D.int (i + (k : Nat)))) else bot
  | _ => bot
def wRng1 (as : AF) : WF := fun env => bnd (as env) rng1D
def wRng2 (as : AF) : WF := fun env => bnd (as env) rng2D
/-- a list or a tuple with what is wanted of it at each turn -/
def seqD : D → M Wk
  | .tup ds => ret (free ds)
  | .lst ds => ret (free ds)
  | .scr ns => ret (free (ns.map D.int))
  | .ref n => fun g => match g[n]? with
    | some (.lst ds) => .ok ⟨ds, fun g => g[n]? = some (.lst ds)⟩ g
    | _ => .bot
  | _ => bot
def zipD : List D → M Wk
  | [a, b] => bnd (seqD a) fun x => bnd (seqD b) fun y => ret ⟨x.its.zipWith (fun p q => D.tup [p, q]) y.its, fun g => x.ok g ∧ y.ok g⟩
  | _ => bot
def wZip (as : AF) : WF := fun env => bnd (as env) zipD
section
variable {c : CF} {H : Hp} {g : G} {m : List Addr} {R : It → Hp → Prop}
theorem WPI.of {w : Wk} {J : It} (s : SR c.F H g m) (r : RepI c H g m w J) (h : WPI c H g m (ret w g) R) : R J H := h J H m s (Ext.refl _ _ _) r
theorem WPI.shift {H1 : Hp} {g1 : G} {m1 : List Addr} {r : L3.R Wk} (e : Ext H g m H1 g1 m1) (h : WPI c H g m r R) : WPI c H1 g1 m1 r R := by
  cases r with
  | ok x g' => exact fun b H' m' s e' r => h b H' m' s (e.trans e') r
  | err x g' => exact fun cls dd H' m' s e' r => h cls dd H' m' s (e.trans e') r
  | bot => exact h
theorem WPI_bnd {γ δ : Type} {rep1 : RC → γ → δ → Prop} {ma : M γ} {k : γ → M Wk} (h : WPI c H g m (bnd ma k g) R) :
    WP rep1 c H g m (ma g) fun b1 H1 => ∃ g1 m1 x, SR c.F H1 g1 m1 ∧ Ext H g m H1 g1 m1 ∧ rep1 (c.F.rc H1 g1 m1) x b1 ∧ WPI c H1 g1 m1 (k x g1) R := by
  unfold bnd at h
  cases q : ma g with
  | ok x g1 =>
    rw [q] at h
    exact fun b1 H1 m1 s e r => ⟨g1, m1, x, s, e, r, h.shift e⟩
  | err x g1 =>
    rw [q] at h
    exact h
  | bot =>
    rw [q] at h
    exact h
theorem si_bot {X : Cx} {tg e : Expr} : PI X tg e (tI c wBot) := ⟨fun _ _ _ _ _ _ ⟨_, _, _, _, _, h⟩ => h.elim⟩
/-! lists and tuples that stand -/
theorem seqD_ok {d : D} {v : V} {w : Wk} {g' : G} (s : SR c.F H g m) (r : Rep (c.F.rc H g m) d v) (h : seqD d g = .ok w g') :
    g' = g ∧ w.ok g ∧ ∃ a k vs, v = .ref a ∧ SqB c.F.K H k a vs ∧ RepL (c.F.rc H g m) w.its vs ∧
      ∀ rs, Less H rs c.F.rs → ∀ H1 g1 m1, Ext H g m H1 g1 m1 → SR (c.F.w rs) H1 g1 m1 → w.ok g1 → ∃ vs', SqB c.F.K H1 k a vs' ∧ RepL ((c.F.w rs).rc H1 g1 m1) w.its vs' := by
  have hl : ∀ a, lv g m a → ∃ vs, H a = some (.lst vs) := fun _ z => lv_lst s z
  cases d with
  | tup ds =>
    have h : (L3.R.ok (free ds) g : L3.R Wk) = .ok w g' := h
    cases h
    obtain ⟨a, vs, rfl, h1, h2⟩ := tup_of r
    exact ⟨rfl, trivial, a, false, vs, rfl, h1, h2, fun rs l H1 g1 m1 e s1 _ => ⟨vs, e.sqT s h1, RepL.ext0 e hl (h2.to l)⟩⟩
  | lst ds =>
    have h : (L3.R.ok (free ds) g : L3.R Wk) = .ok w g' := h
    cases h
    obtain ⟨a, vs, rfl, h1, h2, h3⟩ := lst_of r
    exact ⟨rfl, trivial, a, true, vs, rfl, SqL.of h1, h3, fun rs l H1 g1 m1 e s1 _ => ⟨vs, SqL.of (e.keep a _ h1 fun z => h2 (.inl z)).1, RepL.ext0 e hl (h3.to l)⟩⟩
  | scr ns =>
    have h : (L3.R.ok (free (ns.map D.int)) g : L3.R Wk) = .ok w g' := h
    cases h
    have r0 := r
    obtain ⟨a, rfl, h1⟩ := scr_of r
    refine ⟨rfl, trivial, a, true, ns.map V.int, rfl, h1.sqL, RepL.ints, fun rs l H1 g1 m1 e s1 _ => ⟨ns.map V.int, ?_, RepL.ints⟩⟩
    have r1 := r0.ext e s
    obtain ⟨a', ea, h2⟩ := scr_of r1
    cases ea
    exact h2.sqL
  | ref n =>
    unfold seqD at h
    simp only [] at h
    cases q : g[n]? with
    | none => rw [q] at h; cases h
    | some cl =>
      rw [q] at h
      cases cl with
      | lst ds =>
        cases h
        obtain ⟨a, vs, rfl, h1, h2, h3⟩ := cell_of s r q
        refine ⟨rfl, q, a, true, vs, rfl, SqL.of h2, h3, fun rs l H1 g1 m1 e s1 q1 => ?_⟩
        have h1' := e.at_ h1
        obtain ⟨a', vs', h4, h5, h6⟩ := s1.lst n ds q1
        rw [h1'] at h4
        cases h4
        exact ⟨vs', SqL.of h5, h6⟩
      | lck ds => cases h
      | dead => cases h
  | _ => cases h
theorem seqD_err {d : D} {x : XD} {g' : G} : seqD d g ≠ .err x g' := by
  cases d with
  | ref n =>
    unfold seqD
    simp only []
    cases g[n]? with
    | none => intro h; cases h
    | some cl => cases cl <;> intro h <;> cases h
  | _ => intro h; cases h
/-- what walks a list, a tuple that stands -/
theorem repI_seq {a : Addr} {k : Bool} {w : Wk} {vs : List V} (hq : SqB c.F.K H k a vs)
    (st : ∀ rs, Less H rs c.F.rs → ∀ H1 g1 m1, Ext H g m H1 g1 m1 → SR (c.F.w rs) H1 g1 m1 → w.ok g1 → ∃ vs', SqB c.F.K H1 k a vs' ∧ RepL ((c.F.w rs).rc H1 g1 m1) w.its vs') : RepI c H g m w (match k with | true => Itl c.F.K a | false => Itt c.F.K a) := by
  intro rs l i H1 g1 m1 e1 s1 o1
  obtain ⟨vs', hq', r'⟩ := st rs l H1 g1 m1 e1 s1 o1
  cases k with
  | true =>
    refine ⟨fun d hd => ?_, fun hi => ⟨vs', hq', by rw [r'.length, hi]; exact Nat.le_refl _⟩⟩
    obtain ⟨v, hv, rv⟩ := r'.get hd
    refine ⟨⟨vs', v, hq', hv⟩, fun x H' y => ?_⟩
    obtain ⟨rfl, f⟩ := y
    have := f vs' hq'
    rw [hv] at this
    cases this
    exact ⟨s1, Ext.refl _ _ _, rv⟩
  | false =>
    refine ⟨fun d hd => ?_, fun hi => ⟨vs', hq', by rw [r'.length, hi]; exact Nat.le_refl _⟩⟩
    obtain ⟨v, hv, rv⟩ := r'.get hd
    refine ⟨⟨vs', v, hq', hv⟩, fun x H' y => ?_⟩
    obtain ⟨rfl, f⟩ := y
    have := f vs' hq'
    rw [hv] at this
    cases this
    exact ⟨s1, Ext.refl _ _ _, rv⟩
theorem wkD_seq {d : D} (h : ∀ x, d ≠ .str x) : wkD d = seqD d := by
  cases d with
  | str x => exact absurd rfl (h x)
  | _ => rfl
theorem si_val {X : Cx} {tg e : Expr} {fe : EF} (hK : X.K = c.F.K) (he : PE X e (tE c fe)) : PI X tg e (tI c (wVal fe)) := by
  refine ⟨fun pins s0 σ H R I h => (pi_any (tg := tg) he).run pins s0 σ H R I ?_⟩
  obtain ⟨env, g, m, r, s, h⟩ := h
  refine ⟨env, g, m, r, s, (WPI_bnd (rep1 := Rep) h).imp fun v H1 h1 => ?_⟩
  obtain ⟨g1, m1, d, s1, e1, r1, h1⟩ := h1
  rw [hK]
  by_cases hd : ∃ x, d = .str x
  · obtain ⟨x, rfl⟩ := hd
    refine .inr (.inr ⟨x, str_of r1, WPI.of s1 ?_ h1⟩)
    intro rs l i H2 g2 m2 e2 s2 o2
    refine ⟨fun d hd => ?_, fun hi => ?_⟩
    · have hd' : (x.cps.toList.map fun k => D.str ⟨#[k]⟩)[i]? = some d := hd
      rw [List.getElem?_map] at hd'
      cases q : x.cps.toList[i]? with
      | none => rw [q] at hd'; cases hd'
      | some k =>
        rw [q] at hd'
        cases hd'
        have q2 : x.cps[i]? = some k := by rw [← Array.getElem?_toList]; exact q
        refine ⟨(Array.getElem?_eq_some_iff.mp q2).1, fun v H' y => ?_⟩
        obtain ⟨rfl, k', hk, rfl⟩ := y
        rw [q2] at hk
        cases hk
        exact ⟨s2, Ext.refl _ _ _, rep_str⟩
    · have hi : i = (x.cps.toList.map fun k => D.str ⟨#[k]⟩).length := hi
      show x.cps.size ≤ i
      rw [hi, List.length_map, Array.length_toList]
      exact Nat.le_refl _
  · rw [wkD_seq fun x hx => hd ⟨x, hx⟩] at h1
    cases q : seqD d g1 with
    | ok w g2 =>
      obtain ⟨rfl, o1, a, k, vs, rfl, hq, r2, st⟩ := seqD_ok s1 r1 q
      rw [q] at h1
      have h2 := h1 _ H1 m1 s1 (Ext.refl _ _ _) (repI_seq hq st)
      cases k with
      | true => exact .inl ⟨a, rfl, ⟨vs, hq⟩, h2⟩
      | false => exact .inr (.inl ⟨a, rfl, ⟨vs, hq⟩, h2⟩)
    | err x g2 => exact absurd q seqD_err
    | bot => rw [q] at h1; exact h1.elim
theorem zip_get {α β γ : Type} (f : α → β → γ) : ∀ {xs : List α} {ys : List β} {i : Nat} {z : γ}, (xs.zipWith f ys)[i]? = some z → ∃ x y, xs[i]? = some x ∧ ys[i]? = some y ∧ z = f x y
  | [], _, _, _, h => by simp at h
  | _ :: _, [], _, _, h => by simp at h
  | x :: xs, y :: ys, 0, z, h => by
    simp at h
    exact ⟨x, y, rfl, rfl, h.symm⟩
  | x :: xs, y :: ys, i + 1, z, h => by
    obtain ⟨x', y', h1, h2, h3⟩ := zip_get f (xs := xs) (ys := ys) (i := i) (by simpa using h)
    exact ⟨x', y', by simpa using h1, by simpa using h2, h3⟩
theorem si_zip {X : Cx} {e e2 : Expr} {as : AF} {p pos tpos : Pos} {elts : List Expr} {kk : Nat} (hK : X.K = c.F.K) (hg : Gl X "zip") (hm : X.mg "zip" = none) (ha : PA X [e, e2] (tA c as))
    (hs : starEach [e, e2] X.env = (false, eval e X.env) :: starEach [e2] X.env) (hpl : (backTo pos (starEach [e2] X.env)).any (·.1) = false) :
    PI X (.Tuple elts kk tpos) (.Call (.Name "zip" p) [e, e2] [] pos) (tI c (wZip as)) := by
  refine ⟨fun pins s0 σ H R I h => (pi_ZZ hg hm ha hs hpl).run pins s0 σ H R I ?_⟩
  obtain ⟨env, g, m, r, s, h⟩ := h
  refine ⟨env, g, m, r, s, (WPI_bnd (rep1 := RepL) h).imp fun vs H1 h1 => ?_⟩
  obtain ⟨g1, m1, ds, s1, e1, r1, h1⟩ := h1
  cases ds with
  | nil => exact h1.elim
  | cons d1 ds =>
    cases ds with
    | nil => exact h1.elim
    | cons d2 ds =>
      cases ds with
      | cons _ _ => exact h1.elim
      | nil =>
        rw [RepL.cons] at r1
        obtain ⟨v1, vs1, rfl, rv1, r2⟩ := r1
        rw [RepL.cons] at r2
        obtain ⟨v2, vs2, rfl, rv2, r3⟩ := r2
        rw [RepL.nil] at r3
        subst r3
        have h1 : WPI c H1 g1 m1 (bnd (seqD d1) (fun x => bnd (seqD d2) fun y => ret ⟨x.its.zipWith (fun p q => D.tup [p, q]) y.its, fun g => x.ok g ∧ y.ok g⟩) g1) R := h1
        cases q : seqD d1 g1 with
        | err x g2 => exact absurd q seqD_err
        | bot =>
          unfold bnd at h1
          rw [q] at h1
          exact h1.elim
        | ok w1 g2 =>
          obtain ⟨rfl, o1, a, k1, xs, rfl, hqx, rx, st1⟩ := seqD_ok s1 rv1 q
          rw [bnd_ok q] at h1
          cases q2 : seqD d2 g2 with
          | err x g3 => exact absurd q2 seqD_err
          | bot =>
            unfold bnd at h1
            rw [q2] at h1
            exact h1.elim
          | ok w2 g3 =>
            obtain ⟨rfl, o2, b, k2, ys, rfl, hqy, ry, st2⟩ := seqD_ok s1 rv2 q2
            rw [bnd_ok q2] at h1
            rw [hK]
            refine ⟨a, b, k1, k2, xs, ys, rfl, hqx, hqy, WPI.of s1 ?_ h1⟩
            intro rs l i H2 g2 m2 ee s2 o
            obtain ⟨xs', hx', rx'⟩ := st1 rs l H2 g2 m2 ee s2 o.1
            obtain ⟨ys', hy', ry'⟩ := st2 rs l H2 g2 m2 ee s2 o.2
            refine ⟨fun d hd => ?_, fun hi => ?_⟩
            · obtain ⟨x, y, hx, hy, rfl⟩ := zip_get _ hd
              obtain ⟨vx, hvx, rvx⟩ := rx'.get hx
              obtain ⟨vy, hvy, rvy⟩ := ry'.get hy
              refine ⟨⟨xs', ys', vx, vy, hx', hy', hvx, hvy⟩, fun v H' yl => ?_⟩
              obtain ⟨T, x2, y2, rfl, hT, rfl, f1, f2⟩ := yl
              have e1 := f1 xs' hx'
              have e2 := f2 ys' hy'
              rw [hvx] at e1
              rw [hvy] at e2
              cases e1
              cases e2
              obtain ⟨s3, e3⟩ := s2.new (o := .tup [vx, vy]) hT
              refine ⟨s3, e3, Rep_tup_new s2 hT ?_⟩
              rw [RepL.cons]
              refine ⟨vx, [vy], rfl, rvx, ?_⟩
              rw [RepL.cons]
              exact ⟨vy, [], rfl, rvy, by rw [RepL.nil]⟩
            · have hi : i = (w1.its.zipWith (fun p q => D.tup [p, q]) w2.its).length := hi
              rw [List.length_zipWith] at hi
              have l1 := rx'.length
              have l2 := ry'.length
              exact ⟨xs', ys', hx', hy', by omega, by omega, by omega⟩
theorem small62_of {i : Int} (h : small62 i = true) : -(2 ^ 62) ≤ i ∧ i < 2 ^ 62 := by
  unfold small62 at h
  have h2 := of_decide_eq_true h
  omega
theorem repI_rng (lo : Int) (n : Nat) : RepI c H g m (free ((List.range n).map fun k => D.int (lo + (k : Nat)))) (Itr lo n) := by
  intro rs l i H2 g2 m2 e2 s2 o2
  refine ⟨fun d hd => ?_, fun hi => ?_⟩
  · have hd' : ((List.range n).map fun k => D.int (lo + (k : Nat)))[i]? = some d := hd
    rw [List.getElem?_map] at hd'
    by_cases hn : i < n
    · rw [List.getElem?_range hn] at hd'
      cases hd'
      refine ⟨hn, fun v H' y => ?_⟩
      obtain ⟨rfl, rfl⟩ := y
      exact ⟨s2, Ext.refl _ _ _, rep_int⟩
    · rw [List.getElem?_eq_none (by rw [List.length_range]; omega)] at hd'
      cases hd'
  · have hi : i = ((List.range n).map fun k => D.int (lo + (k : Nat))).length := hi
    rw [List.length_map, List.length_range] at hi
    show n ≤ i
    omega
theorem si_rng1 {X : Cx} {tg a : Expr} {as : AF} {p pos : Pos} (hg : Gl X "range") (hm : X.mg "range" = none) (ha : PA X [a] (tA c as)) (hs : starEach [a] X.env = [(false, eval a X.env)]) : PI X tg (.Call (.Name "range" p) [a] [] pos) (tI c (wRng1 as)) := by
  refine ⟨fun pins s0 σ H R I h => (pi_range1 hg hm ha hs).run pins s0 σ H R I ?_⟩
  obtain ⟨env, g, m, r, s, h⟩ := h
  refine ⟨env, g, m, r, s, (WPI_bnd (rep1 := RepL) h).imp fun vs H1 h1 => ?_⟩
  obtain ⟨g1, m1, ds, s1, e1, r1, h1⟩ := h1
  unfold rng1D at h1
  split at h1
  · rename_i j
    rw [RepL.cons] at r1
    obtain ⟨v1, vs1, rfl, rv1, r2⟩ := r1
    rw [RepL.nil] at r2
    subst r2
    split at h1
    · rename_i hj
      obtain ⟨q1, q2⟩ := small62_of hj
      refine ⟨j, by rw [int_of rv1], q1, q2, WPI.of s1 ?_ h1⟩
      have := repI_rng (c := c) (H := H1) (g := g1) (m := m1) 0 j.toNat
      simp only [Int.zero_add] at this
      exact this
    · exact h1.elim
  · exact h1.elim
theorem si_rng2 {X : Cx} {tg a b : Expr} {as : AF} {p pos : Pos} (hg : Gl X "range") (hm : X.mg "range" = none) (ha : PA X [a, b] (tA c as)) (hs : starEach [a, b] X.env = [(false, eval a X.env), (false, eval b X.env)]) (hs2 : starEach [b] X.env = [(false, eval b X.env)]) : PI X tg (.Call (.Name "range" p) [a, b] [] pos) (tI c (wRng2 as)) := by
  refine ⟨fun pins s0 σ H R I h => (pi_range2 hg hm ha hs hs2).run pins s0 σ H R I ?_⟩
  obtain ⟨env, g, m, r, s, h⟩ := h
  refine ⟨env, g, m, r, s, (WPI_bnd (rep1 := RepL) h).imp fun vs H1 h1 => ?_⟩
  obtain ⟨g1, m1, ds, s1, e1, r1, h1⟩ := h1
  unfold rng2D at h1
  split at h1
  · rename_i i j
    rw [RepL.cons] at r1
    obtain ⟨v1, vs1, rfl, rv1, r2⟩ := r1
    rw [RepL.cons] at r2
    obtain ⟨v2, vs2, rfl, rv2, r3⟩ := r2
    rw [RepL.nil] at r3
    subst r3
    split at h1
    · rename_i hj
      rw [Bool.and_eq_true] at hj
      obtain ⟨q1, q2⟩ := small62_of hj.1
      obtain ⟨q3, q4⟩ := small62_of hj.2
      exact ⟨i, j, by rw [int_of rv1, int_of rv2], ⟨q1, q2, q3, q4⟩, WPI.of s1 (repI_rng i (j - i).toNat) h1⟩
    · exact h1.elim
  · exact h1.elim
end

/-! ### targets -/
abbrev GF := D → Env3 → M Env3
def RepE : RC → Env3 → L2.St → Prop := fun C env σ => σ.length = env.length ∧ ∀ (i : Nat) (d : D), env[i]? = some (some d) → ∃ v, σ[i]? = some (some v) ∧ Rep C d v
theorem RE.e {F : FX} {H : Hp} {g : G} {m : List Addr} {σ : L2.St} {env : Env3} (r : RE F H g m σ env) : RepE (F.rc H g m) env σ := ⟨r.len, r.at_⟩
theorem RepE.r {F : FX} {H : Hp} {g : G} {m : List Addr} {σ : L2.St} {env : Env3} (r : RepE (F.rc H g m) env σ) : RE F H g m σ env := ⟨r.1, r.2⟩
/-- what stays of the slots -/
structure Kp (kp : L2.St → L2.St → Prop) : Prop where
  refl : ∀ σ, kp σ σ
  trans : ∀ a b c, kp a b → kp b c → kp a c
def RepK (kp : L2.St → L2.St → Prop) (σ0 : L2.St) : RC → Env3 → L2.St → Prop := fun C env σ => kp σ0 σ ∧ RepE C env σ
theorem WP.rep {α β : Type} {rep rep' : RC → α → β → Prop} {c : CF} {H : Hp} {g : G} {m : List Addr} {r : R α} {Q : β → Hp → Prop} (h : WP rep c H g m r Q) (i : ∀ C x b, rep' C x b → rep C x b) : WP rep' c H g m r Q := by
  cases r with
  | ok x g' => exact fun b H' m' s e' r => h b H' m' s e' (i _ _ _ r)
  | err x g' => exact h
  | bot => exact h
def tGt (c : CF) (kp : L2.St → L2.St → Prop) (gf : GF) : TG := fun v σ H Q => ∃ env g m d, RE c.F H g m σ env ∧ SR c.F H g m ∧ Rep (c.F.rc H g m) d v ∧ WP (RepK kp σ) c H g m (gf d env g) Q
def tGts (c : CF) (kp : L2.St → L2.St → Prop) (gf : List D → Env3 → M Env3) : TGs := fun vs σ H Q => ∃ env g m ds, RE c.F H g m σ env ∧ SR c.F H g m ∧ RepL (c.F.rc H g m) ds vs ∧ WP (RepK kp σ) c H g m (gf ds env g) Q
theorem PG_imp {X : Cx} {e : Expr} {t t' : TG} (h : PG X e t) (i : ∀ v σ H Q, t' v σ H Q → t v σ H Q) : PG X e t' := ⟨fun pins s σ H v u Q I r q => h.run pins s σ H v u Q I r (i v σ H Q q)⟩
theorem PGs_imp {X : Cx} {es : List Expr} {t t' : TGs} (h : PGs X es t) (i : ∀ v σ H Q, t' v σ H Q → t v σ H Q) : PGs X es t' := ⟨fun pins s σ H v u Q I r q => h.run pins s σ H v u Q I r (i v σ H Q q)⟩
def gBot : GF := fun _ _ => bot
def gNm (i : Nat) : GF := fun d env => ret (env.set i (some d))
def gsNil : List D → Env3 → M Env3 := fun ds env => match ds with
  | [] => ret env
  | _ => bot
def gsCons (a : GF) (r : List D → Env3 → M Env3) : List D → Env3 → M Env3 := fun ds env => match ds with
  | d :: ds => bnd (a d env) fun env => r ds env
  | [] => bot
def gTp (n : Nat) (gs : List D → Env3 → M Env3) : GF := fun d env => match d with
  | .tup ds => if ds.length = n then gs ds env else bot
  | _ => bot
def setD (o i v : D) : M Unit := match o, i with
  | .ref n, .int k => fun g => match g[n]? with
    | some (.lst ds) => match ixN ds.length k with
      | some j => .ok () (g.set n (.lst (ds.set j v)))
      | none => .bot
    | _ => .bot
  | _, _ => bot
def gSb (o i : EF) : GF := fun d env => bnd (o env) fun ov => bnd (i env) fun iv => bnd (setD ov iv d) fun _ => ret env
section
variable {X : Cx} {c : CF} {pos : Pos} {kp : L2.St → L2.St → Prop}
theorem sg_bot {e : Expr} : PG X e (tGt c kp gBot) := ⟨fun _ _ _ _ _ _ _ _ _ ⟨_, _, _, _, _, _, _, h⟩ => h.elim⟩
theorem sg_name {i : Nat} {x : Str} (hN : X.N.Nodup) (hi : X.N[i]? = some x) (hx : Loc X.env.scope x) (hf : X.fn x = true ∨ X.env.scope.names.lookup x = some .local) (hk : ∀ σ v, kp σ (σ.set i v)) : PG X (.Name x pos) (tGt c kp (gNm i)) :=
  PG_imp (pg_name hN hi hx hf) fun v σ H Q ⟨env, g, m, d, r, s, rd, h⟩ => h _ H m s (Ext.refl _ _ _) ⟨hk _ _, (r.set i rd).e⟩
theorem sgs_nil (k : Kp kp) : PGs X [] (tGts c kp gsNil) := PGs_imp pgs_nil fun v σ H Q ⟨env, g, m, ds, r, s, rd, h⟩ => by
  cases ds with
  | nil =>
    rw [RepL.nil] at rd
    exact ⟨rd, h _ H m s (Ext.refl _ _ _) ⟨k.refl _, r.e⟩⟩
  | cons _ _ => exact h.elim
theorem sgs_cons (kk : Kp kp) {e : Expr} {es : List Expr} {gf : GF} {gr : List D → Env3 → M Env3} (h1 : PG X e (tGt c kp gf)) (h2 : PGs X es (tGts c kp gr)) (hs : (assignEach (e :: es) X.env).map (·.2) = assign e X.env :: (assignEach es X.env).map (·.2)) : PGs X (e :: es) (tGts c kp (gsCons gf gr)) :=
  PGs_imp (pgs_cons h1 h2 hs) fun vs σ H Q ⟨env, g, m, ds, r, s, rd, h⟩ => by
    cases ds with
    | nil => exact h.elim
    | cons d ds =>
      rw [RepL.cons] at rd
      obtain ⟨v, vs', rfl, r1, r2⟩ := rd
      refine ⟨v, vs', rfl, env, g, m, d, r, s, r1, (WP.bnd (rep1 := RepK kp σ) h).imp fun σ1 H1 h1 => ?_⟩
      obtain ⟨g1, m1, env1, s1, e1, ⟨k1, re1⟩, h1⟩ := h1
      exact ⟨env1, g1, m1, ds, re1.r, s1, r2.ext e1 s, h1.rep fun C x b ⟨k2, r⟩ => ⟨kk.trans _ _ _ k1 k2, r⟩⟩
theorem sg_tup {es : List Expr} {k n : Nat} {gr : List D → Env3 → M Env3} (hK : X.K = c.F.K) (hc : X.calm = true) (h : PGs X es (tGts c kp gr)) (hn : (assignEach es X.env).length = n) (hst : (assignEach es X.env).findIdx? (·.1) = none) : PG X (.Tuple es k pos) (tGt c kp (gTp n gr)) :=
  PG_imp (pg_tup hc h hn hst) fun v σ H Q ⟨env, g, m, d, r, s, rd, h⟩ => by
    cases d with
    | tup ds =>
      obtain ⟨a, vs, rfl, h1, h2⟩ := tup_of rd
      unfold gTp at h
      simp only [] at h
      split at h
      · rename_i hl
        exact ⟨a, vs, rfl, by rw [hK]; exact h1, by rw [h2.length]; exact hl, env, g, m, ds, r, s, h2, h⟩
      · exact h.elim
    | _ => exact h.elim
theorem sg_sub (kk : Kp kp) {o i : Expr} {fo fi : EF} (ho : PE X o (tE c fo)) (hi : PE X i (tE c fi))
    (ha : ∀ v, assign (.Subscript o i pos) X.env v = (do
      let ov ← holding [v] (eval o X.env)
      let iv ← holding [v, ov] (eval i X.env)
      standAt pos
      holding [v, ov, iv] (setItem ov iv v)
      release [v, ov, iv] [])) : PG X (.Subscript o i pos) (tGt c kp (gSb fo fi)) :=
  PG_imp (pg_sub ho hi set_list ha) fun v σ H Q ⟨env, g, m, d, r, s, rd, h⟩ => by
    refine ⟨env, g, m, r, s, (WP.bnd (rep1 := Rep) h).imp fun o1 H1 h1 => ?_⟩
    obtain ⟨g1, m1, od, s1, e1, r1, h1⟩ := h1
    refine ⟨env, g1, m1, r.ext e1 s, s1, (WP.bnd (rep1 := Rep) h1).imp fun i1 H2 h2 => ?_⟩
    obtain ⟨g2, m2, idd, s2, e2, r2, h2⟩ := h2
    have rd2 := (rd.ext e1 s).ext e2 s1
    have ro2 := r1.ext e2 s1
    cases od with
    | ref n =>
      cases idd with
      | int k =>
        have h2 : WP (RepK kp σ) c H2 g2 m2 (bnd (setD (.ref n) (.int k) d) (fun _ => ret env) g2) Q := h2
        unfold bnd setD at h2
        simp only [] at h2
        cases q : g2[n]? with
        | none => rw [q] at h2; exact h2.elim
        | some cl =>
          rw [q] at h2
          cases cl with
          | lst ds =>
            simp only [] at h2
            cases q2 : ixN ds.length k with
            | none => rw [q2] at h2; exact h2.elim
            | some j =>
              rw [q2] at h2
              obtain ⟨a, vs, rfl, h3, h4, h5⟩ := cell_of s2 ro2 q
              obtain ⟨s3, e3⟩ := s2.write q h3 (RepL.set rd2 j h5)
              refine ⟨a, vs, k, j, rfl, int_of r2, h4, by rw [h5.length]; exact q2, ?_⟩
              have re3 := (((r.ext e1 s).ext e2 s1).ext e3 s2)
              exact h2 σ _ _ s3 e3 ⟨kk.refl _, re3.e⟩
          | lck ds => exact h2.elim
          | dead => exact h2.elim
      | _ => exact h2.elim
    | _ => exact h2.elim
end
end L3
set_option Elab.async false
set_option linter.all false
set_option maxRecDepth 100000
set_option maxHeartbeats 4000000
namespace L3
open PySem PySem.Spec PyProof.Rows L2

/-! ### comprehensions -/
open Classical in
noncomputable def chk {α : Type} (ok : G → Prop) (m : M α) : M α := fun g => if ok g then m g else .bot
theorem chk_true {α : Type} (m : M α) : chk (fun _ => True) m = m := by
  funext g
  unfold chk
  rw [if_pos trivial]
def noErr {α : Type} (m : M α) : M α := fun g => match m g with
  | .ok x g' => .ok x g'
  | _ => .bot
theorem noErr_ret {α : Type} (x : α) : noErr (ret x) = ret x := rfl
theorem noErr_ok {α : Type} {m : M α} {g g' : G} {x : α} (h : m g = .ok x g') : noErr m g = .ok x g' := by
  unfold noErr
  rw [h]
noncomputable def compA (ok : G → Prop) (gf : GF) (tf : TF) (ef : EF) (env : Env3) : List D → List D → M (List D)
  | acc, [] => chk ok (ret acc)
  | acc, d :: rest => chk ok (bnd (gf d env) fun e1 => bnd (tf e1) fun k => if k = true then bnd (ef e1) fun y => compA ok gf tf ef env (acc ++ [y]) rest else compA ok gf tf ef env acc rest)
def wipeE (env : Env3) : List Nat → Env3
  | [] => env
  | v :: vs => (wipeE env vs).set v none
noncomputable def eComp (own : List Nat) (wf : WF) (gf : GF) (tf : TF) (ef : EF) (cell : Bool) : EF := fun env => bnd (wf env) fun w => if w.its.length ≤ lim then
  bnd (noErr (compA w.ok gf tf ef (wipeE env own) [] w.its)) fun ys => if cell = true then newCell ys else ret (.lst ys) else bot
def fYes : TF := fun _ => ret true

theorem RE.unset {F : FX} {H : Hp} {g : G} {m : List Addr} {σ : L2.St} {env : Env3} (r : RE F H g m σ env) (v : Nat) : RE F H g m (σ.set v none) (env.set v none) := by
  refine ⟨by rw [List.length_set, List.length_set, r.len], fun j d' e => ?_⟩
  by_cases hj : v = j
  · subst hj
    by_cases hi : v < env.length
    · rw [List.getElem?_set_self hi] at e
      cases e
    · rw [List.getElem?_eq_none (by rw [List.length_set]; omega)] at e
      cases e
  · rw [List.getElem?_set_ne hj] at e
    obtain ⟨w, h1, h2⟩ := r.at_ j d' e
    exact ⟨w, by rw [List.getElem?_set_ne hj]; exact h1, h2⟩
theorem RE.wipe {F : FX} {H : Hp} {g : G} {m : List Addr} {σ : L2.St} {env : Env3} (r : RE F H g m σ env) : ∀ vs : List Nat, RE F H g m (wipe σ vs) (wipeE env vs)
  | [] => r
  | v :: vs => (RE.wipe r vs).unset v
theorem RE.to {F : FX} {rs : Addr → Prop} {H : Hp} {g : G} {m : List Addr} {σ : L2.St} {env : Env3} (l : Less H rs F.rs) (r : RE F H g m σ env) : RE (F.w rs) H g m σ env := ⟨r.len, fun i d h => by
  obtain ⟨v, h1, h2⟩ := r.at_ i d h
  exact ⟨v, h1, h2.to l⟩⟩
theorem wipe_set {σ : L2.St} {i : Nat} {x : Option V} : ∀ {vs : List Nat}, i ∈ vs → wipe (σ.set i x) vs = wipe σ vs
  | v :: vs, h => by
    unfold wipe
    by_cases e : i = v
    · subst e
      by_cases hm : i ∈ vs
      · rw [wipe_set hm]
      · have : ∀ ws : List Nat, i ∉ ws → wipe (σ.set i x) ws = (wipe σ ws).set i x := by
          intro ws
          induction ws with
          | nil => intro _; rfl
          | cons w ws ih =>
            intro hw
            simp only [List.mem_cons, not_or] at hw
            unfold wipe
            rw [ih hw.2, List.set_comm _ _ hw.1]
        rw [this vs hm, List.set_set]
    · have hm : i ∈ vs := by
        rcases List.mem_cons.mp h with q | q
        · exact absurd q e
        · exact q
      rw [wipe_set hm]
def kpW (own : List Nat) : L2.St → L2.St → Prop := fun σ σ' => wipe σ' own = wipe σ own
theorem kpW_ok (own : List Nat) : Kp (kpW own) := ⟨fun _ => rfl, fun _ _ _ h1 h2 => h2.trans h1⟩
theorem kpW_set {own : List Nat} {i : Nat} (h : i ∈ own) (σ : L2.St) (v : Option V) : kpW own σ (σ.set i v) := wipe_set h
/-- the contexts within -/
abbrev CF.inn (c : CF) (rs : Addr → Prop) : CF := ⟨c.F.w rs, c.Y, fun _ _ _ => False⟩
/-- readings for any set of reserved addresses -/
theorem PE_ex {X : Cx} {e : Expr} {t : (Addr → Prop) → TE} (h : ∀ r, PE X e (t r)) : PE X e (fun σ H Q => ∃ r, t r σ H Q) := ⟨fun pins s σ H Q I ⟨r, q⟩ => (h r).run pins s σ H Q I q⟩
theorem PTs_ex {X : Cx} {e : List Expr} {t : (Addr → Prop) → TT} (h : ∀ r, PTs X e (t r)) : PTs X e (fun σ H Q => ∃ r, t r σ H Q) := ⟨fun pins s σ H Q I ⟨r, q⟩ => (h r).run pins s σ H Q I q⟩
theorem PG_ex {X : Cx} {e : Expr} {t : (Addr → Prop) → TG} (h : ∀ r, PG X e (t r)) : PG X e (fun v σ H Q => ∃ r, t r v σ H Q) := ⟨fun pins s σ H v u Q I rv ⟨r, q⟩ => (h r).run pins s σ H v u Q I rv q⟩
theorem PTs_imp {X : Cx} {e : List Expr} {t t' : TT} (h : PTs X e t) (i : ∀ σ H Q, t' σ H Q → t σ H Q) : PTs X e t' := ⟨fun pins s σ H Q I q => h.run pins s σ H Q I (i σ H Q q)⟩
theorem sts_nil {X : Cx} {c : CF} : PTs X [] (tT c fYes) := PTs_imp pts_nil fun σ H Q ⟨env, g, m, r, s, h⟩ => h true H m s (Ext.refl _ _ _) rfl
theorem sts_one {X : Cx} {c : CF} {e : Expr} {t : TF} (h : PT X e (tT c t)) : PTs X [e] (tT c t) := pts_one h
/-- a reserved address that becomes a cell -/
theorem SR.claim {F : FX} {H : Hp} {g : G} {m : List Addr} {dd : Addr} {ds : List D} {vs : List V} (nD : ¬ F.rs dd) (s : SR (F.w fun a => F.rs a ∨ a = dd) H g m) (hH : H dd = some (.lst vs)) (r : RepL ((F.w fun a => F.rs a ∨ a = dd).rc H g m) ds vs) :
    SR F H (g ++ [.lst ds]) (m ++ [dd]) ∧ (m ++ [dd])[g.length]? = some dd ∧ ∀ a, lv (g ++ [.lst ds]) (m ++ [dd]) a → lv g m a ∨ a = dd := by
  have hl := s.len
  have nm : ∀ i : Nat, m[i]? ≠ some dd := (s.rsv dd (.inr rfl)).2
  have hp2 : (m ++ [dd])[g.length]? = some dd := by
    rw [← hl, List.getElem?_append_right (Nat.le_refl _), Nat.sub_self]
    rfl
  have atm : ∀ {i : Nat} {a : Addr}, m[i]? = some a → (m ++ [dd])[i]? = some a := fun {i a} h => by
    rw [List.getElem?_append_left (List.getElem?_eq_some_iff.mp h).1]
    exact h
  have key : ∀ (i : Nat) (a : Addr), (m ++ [dd])[i]? = some a → (i < m.length ∧ m[i]? = some a) ∨ (i = m.length ∧ a = dd) := fun i a h => by
    by_cases hi : i < m.length
    · rw [List.getElem?_append_left hi] at h
      exact .inl ⟨hi, h⟩
    · rw [List.getElem?_append_right (by omega)] at h
      cases hz : i - m.length with
      | zero =>
        rw [hz] at h
        exact .inr ⟨by omega, (Option.some.inj h).symm⟩
      | succ z =>
        rw [hz] at h
        cases h
  have lvs : ∀ a, lv (g ++ [.lst ds]) (m ++ [dd]) a → lv g m a ∨ a = dd := by
    rintro a ⟨k, es, h1, h2⟩
    rcases key k a h2 with ⟨hk, h3⟩ | ⟨_, h3⟩
    · rw [List.getElem?_append_left (by omega)] at h1
      exact .inl ⟨k, es, h1, h3⟩
    · exact .inr h3
  have up : ∀ {d : List D} {v : List V}, RepL ((F.w fun a => F.rs a ∨ a = dd).rc H g m) d v → RepL (F.rc H (g ++ [.lst ds]) (m ++ [dd])) d v  := fun {d v} r => RepL.lvto (fun a z => by
    rcases z with z | z
    · rcases lvs a z with q | q
      · exact .inl (.inl q)
      · exact .inl (.inr (.inr q))
    · exact .inl (.inr (.inl z))) (fun n a h => atm h) r
  refine ⟨⟨by rw [List.length_append, List.length_append, hl]; rfl, fun i j a h1 h2 => ?_, fun n es h => ?_, fun n es h => ?_, fun n a h => ?_, fun a z => ?_⟩, hp2, lvs⟩
  · rcases key i a h1 with ⟨a1, b1⟩ | ⟨a1, b1⟩ <;> rcases key j a h2 with ⟨a2, b2⟩ | ⟨a2, b2⟩
    · exact s.inj i j a b1 b2
    · rw [b2] at b1
      exact absurd b1 (nm i)
    · rw [b1] at b2
      exact absurd b2 (nm j)
    · omega
  · by_cases hk : n < g.length
    · rw [List.getElem?_append_left hk] at h
      obtain ⟨a, ws, h1, h2, h3⟩ := s.lst n es h
      exact ⟨a, ws, atm h1, h2, up h3⟩
    · rw [List.getElem?_append_right (by omega)] at h
      have hn : n = g.length := by
        cases hz : n - g.length with
        | zero => omega
        | succ z =>
          rw [hz] at h
          cases h
      subst hn
      rw [Nat.sub_self] at h
      have : ds = es := by
        have h' : some (Cell.lst ds) = some (Cell.lst es) := h
        cases h'
        rfl
      subst this
      exact ⟨dd, vs, hp2, hH, up r⟩
  · by_cases hk : n < g.length
    · rw [List.getElem?_append_left hk] at h
      obtain ⟨a, ws, h1, h2, h3⟩ := s.lck n es h
      exact ⟨a, ws, atm h1, h2, up h3⟩
    · rw [List.getElem?_append_right (by omega)] at h
      cases hz : n - g.length with
      | zero =>
        rw [hz] at h
        cases h
      | succ z =>
        rw [hz] at h
        cases h
  · rcases key n a h with ⟨_, h1⟩ | ⟨_, h1⟩
    · exact s.has n a h1
    · exact ⟨_, by rw [h1]; exact hH⟩
  · obtain ⟨h1, h2⟩ := s.rsv a (.inl z)
    refine ⟨h1, fun i q => ?_⟩
    rcases key i a q with ⟨_, h3⟩ | ⟨_, h3⟩
    · exact h2 i h3
    · exact nD (by rw [← h3]; exact z)
/-! a reserved list is changed -/
mutual
theorem Rep.poke {K : PySem.W.Frag} {fa : Nat → Option Addr} {l : Addr → Prop} {m : List Addr} {H : Hp} {dd : Addr} {xs : List V} {o : HO} (h : H dd = some (.lst xs)) (hl : l dd) : ∀ {d : D} {v : V}, Rep ⟨K, fa, l, m, H⟩ d v → Rep ⟨K, fa, l, m, upd H dd o⟩ d v
  | .non, v, r => by simp only [Rep] at r ⊢; exact r
  | .bl b, v, r => by simp only [Rep] at r ⊢; exact r
  | .int i, v, r => by simp only [Rep] at r ⊢; exact r
  | .str x, v, r => by simp only [Rep] at r ⊢; exact r
  | .tup ds, v, r => by
    simp only [Rep] at r ⊢
    obtain ⟨a, vs, rfl, h1, h2⟩ := r
    refine ⟨a, vs, rfl, ?_, RepL.poke h hl h2⟩
    rcases h1 with (h1 | ⟨o', h1⟩) | h1
    · exact .inl (.inl (by rw [upd_ne (ne_of h1 h (by intro z; cases z))]; exact h1))
    · exact .inl (.inr ⟨o', by rw [upd_ne (ne_of h1 h (by intro z; cases z))]; exact h1⟩)
    · exact .inr h1
  | .lst ds, v, r => by
    simp only [Rep] at r ⊢
    obtain ⟨a, vs, rfl, h1, h2, h3⟩ := r
    have ne : a ≠ dd := fun z => h2 (by rw [z]; exact hl)
    exact ⟨a, vs, rfl, by rw [upd_ne ne]; exact h1, h2, RepL.poke h hl h3⟩
  | .scr ns, v, r => by
    simp only [Rep] at r ⊢
    obtain ⟨a, rfl, h1⟩ := r
    refine ⟨a, rfl, ?_⟩
    rcases h1 with ⟨o', h1⟩ | h1
    · exact .inl ⟨o', by rw [upd_ne (ne_of h1 h (by intro z; cases z))]; exact h1⟩
    · exact .inr h1
  | .dic ks ds, v, r => by
    simp only [Rep] at r ⊢
    obtain ⟨a, vs, rfl, h1, h2, h3⟩ := r
    exact ⟨a, vs, rfl, by rw [upd_ne (ne_of h1 h (by intro z; cases z))]; exact h1, h2, RepL.poke h hl h3⟩
  | .fn i, v, r => by simp only [Rep] at r ⊢; exact r
  | .exn c ds, v, r => by simp only [Rep] at r
  | .ref n, v, r => by simp only [Rep] at r ⊢; exact r
theorem RepL.poke {K : PySem.W.Frag} {fa : Nat → Option Addr} {l : Addr → Prop} {m : List Addr} {H : Hp} {dd : Addr} {xs : List V} {o : HO} (h : H dd = some (.lst xs)) (hl : l dd) : ∀ {ds : List D} {vs : List V}, RepL ⟨K, fa, l, m, H⟩ ds vs → RepL ⟨K, fa, l, m, upd H dd o⟩ ds vs
  | [], vs, r => by rw [RepL.nil] at r ⊢; exact r
  | d :: ds, vs, r => by
    rw [RepL.cons] at r ⊢
    obtain ⟨v, vs', rfl, h1, h2⟩ := r
    exact ⟨v, vs', rfl, Rep.poke h hl h1, RepL.poke h hl h2⟩
end
theorem SR.poke {F : FX} {H : Hp} {g : G} {m : List Addr} {dd : Addr} {xs : List V} {o : HO} (s : SR F H g m) (h : H dd = some (.lst xs)) (hr : F.rs dd) : SR F (upd H dd o) g m := by
  have nm := (s.rsv dd hr).2
  have hs : ∀ {a o'}, H a = some o' → ∃ o'', upd H dd o a = some o'' := fun {a o'} e => by
    by_cases q : a = dd
    · exact ⟨o, by rw [q]; exact upd_same⟩
    · exact ⟨o', by rw [upd_ne q]; exact e⟩
  refine ⟨s.len, s.inj, fun n ds e => ?_, fun n ds e => ?_, fun n a e => ?_, fun a z => ?_⟩
  · obtain ⟨a, vs, h1, h2, h3⟩ := s.lst n ds e
    have ne : a ≠ dd := fun z => nm n (by rw [← z]; exact h1)
    exact ⟨a, vs, h1, by rw [upd_ne ne]; exact h2, RepL.poke h (.inr hr) h3⟩
  · obtain ⟨a, vs, h1, h2, h3⟩ := s.lck n ds e
    have ne : a ≠ dd := fun z => nm n (by rw [← z]; exact h1)
    exact ⟨a, vs, h1, by rw [upd_ne ne]; exact h2, RepL.poke h (.inr hr) h3⟩
  · obtain ⟨o', h1⟩ := s.has n a e
    exact hs h1
  · obtain ⟨⟨o', h1⟩, h2⟩ := s.rsv a z
    exact ⟨hs h1, h2⟩
theorem Ext.poke {H1 H : Hp} {g1 g : G} {m1 m : List Addr} {dd : Addr} {o : HO} (e : Ext H1 g1 m1 H g m) (h : H1 dd = none) : Ext H1 g1 m1 (upd H dd o) g m := by
  have ne : ∀ {a o'}, H1 a = some o' → a ≠ dd := fun {a o'} q z => by rw [z, h] at q; cases q
  refine ⟨e.pre, fun a o' q n => ?_, fun a o' q => ?_, e.newm⟩
  · obtain ⟨h1, h2⟩ := e.keep a o' q n
    exact ⟨by rw [upd_ne (ne q)]; exact h1, h2⟩
  · obtain ⟨o'', h1⟩ := e.still a o' q
    exact ⟨o'', by rw [upd_ne (ne q)]; exact h1⟩
theorem RE.ext0 {F : FX} {H H' : Hp} {g g' : G} {m m' : List Addr} {σ : L2.St} {env : Env3} (e : Ext H g m H' g' m') (s : ∀ a, lv g m a → ∃ vs, H a = some (.lst vs)) (r : RE F H g m σ env) : RE F H' g' m' σ env :=
  ⟨r.len, fun i d h => by
    obtain ⟨v, h1, h2⟩ := r.at_ i d h
    exact ⟨v, h1, Rep.ext0 e s h2⟩⟩
theorem RE.poke {F : FX} {H : Hp} {g : G} {m : List Addr} {σ : L2.St} {env : Env3} {dd : Addr} {xs : List V} {o : HO} (h : H dd = some (.lst xs)) (hr : F.rs dd) (r : RE F H g m σ env) : RE F (upd H dd o) g m σ env :=
  ⟨r.len, fun i d q => by
    obtain ⟨v, h1, h2⟩ := r.at_ i d q
    exact ⟨v, h1, Rep.poke h (.inr hr) h2⟩⟩
theorem wipe_wipe (σ : L2.St) (vs : List Nat) : wipe (wipe σ vs) vs = wipe σ vs := by
  have key : ∀ ws : List Nat, (∀ w ∈ ws, w ∈ vs) → wipe (wipe σ ws) vs = wipe σ vs := by
    intro ws
    induction ws with
    | nil => intro _; rfl
    | cons w ws ih =>
      intro h
      show wipe ((wipe σ ws).set w none) vs = _
      rw [wipe_set (h w (List.mem_cons_self ..))]
      exact ih fun x hx => h x (List.mem_cons_of_mem _ hx)
  exact key vs fun _ h => h
/-- how a turn went -/
theorem bnd_inv {α β : Type} {m : M α} {k : α → M β} {g g' : G} {y : β} (h : bnd m k g = .ok y g') : ∃ x g1, m g = .ok x g1 ∧ k x g1 = .ok y g' := by
  unfold bnd at h
  cases q : m g with
  | ok x g1 => rw [q] at h; exact ⟨x, g1, rfl, h⟩
  | err x g1 => rw [q] at h; cases h
  | bot => rw [q] at h; cases h
theorem chk_inv {α : Type} {ok : G → Prop} {m : M α} {g g' : G} {y : α} (h : chk ok m g = .ok y g') : ok g ∧ m g = .ok y g' := by
  unfold chk at h
  split at h
  · exact ⟨by assumption, h⟩
  · cases h
theorem WP_ok {α β : Type} {rep : RC → α → β → Prop} {c : CF} {H : Hp} {g g' : G} {m : List Addr} {r : R α} {x : α} {Q : β → Hp → Prop} (e : r = .ok x g') (h : ∀ b H' m', SR c.F H' g' m' → Ext H g m H' g' m' → rep (c.F.rc H' g' m') x b → Q b H') : WP rep c H g m r Q := by
  subst e
  exact h
theorem comp_pre {c : CF} {own : List Nat} {wf : WF} {gf : GF} {tf : TF} {ef : EF} {cell : Bool} {σ : L2.St} {H : Hp} {Q : VK} (h : tE c (eComp own wf gf tf ef cell) σ H Q) :
    tLc (tI c wf) (fun v σ H Q => ∃ rs, tGt (c.inn rs) (kpW own) gf v σ H Q) (fun σ H Q => ∃ rs, tT (c.inn rs) tf σ H Q) (fun σ H Q => ∃ rs, tE (c.inn rs) ef σ H Q) own σ H Q := by
  obtain ⟨env, g, m, r, s, h⟩ := h
  refine ⟨env, g, m, r, s, ?_⟩
  unfold eComp at h
  cases qw : wf env g with
  | err x g1 =>
    unfold bnd at h
    rw [qw] at h
    exact h
  | bot =>
    unfold bnd at h
    rw [qw] at h
    exact h
  | ok w g1 =>
  rw [bnd_ok qw] at h
  intro J H1 m1 s1 e1 hJ dd hdd
  have h := h.shift e1
  split at h
  rotate_left
  · exact h.elim
  rename_i hlim
  have r1 := r.ext e1 s
  obtain ⟨s2, l⟩ := s1.reserve (o := .lst []) hdd
  have e2 : Ext H1 g1 m1 (upd H1 dd (.lst [])) g1 m1 := (s1.new hdd).2
  have re2 : RE (c.F.w fun a => c.F.rs a ∨ a = dd) (upd H1 dd (.lst [])) g1 m1 (wipe σ own) (wipeE env own) := ((r1.wipe own).to l).ext0 e2 fun _ z => lv_lst s1 z
  cases qc : compA w.ok gf tf ef (wipeE env own) [] w.its g1 with
  | err x g2 =>
    unfold bnd noErr at h
    rw [qc] at h
    exact h.elim
  | bot =>
    unfold bnd noErr at h
    rw [qc] at h
    exact h.elim
  | ok ys gF =>
  rw [bnd_ok (noErr_ok qc)] at h
  have nD : ¬ c.F.rs dd := fun z => by
    obtain ⟨⟨o, q⟩, _⟩ := s1.rsv dd z
    rw [hdd] at q
    cases q
  let Wb : Nat → Hp → Prop := fun i H => ∃ g m acc vs, SR (c.F.w fun a => c.F.rs a ∨ a = dd) H g m ∧ Ext H1 g1 m1 H g m ∧ RE (c.F.w fun a => c.F.rs a ∨ a = dd) H g m (wipe σ own) (wipeE env own) ∧ H dd = some (.lst vs) ∧
    RepL (FX.rc (c.F.w fun a => c.F.rs a ∨ a = dd) H g m) acc vs ∧ acc.length ≤ i ∧ compA w.ok gf tf ef (wipeE env own) acc (w.its.drop i) g = .ok ys gF
  refine ⟨fun i μ H => μ = w.its.length - i ∧ i ≤ w.its.length ∧ Wb i H, ⟨w.its.length, by simp, Nat.zero_le _, g1, m1, [], [], s2, e2, re2, upd_same, by rw [RepL.nil], Nat.le_refl _, qc⟩, ?_⟩
  rintro i μ H2 ⟨rfl, hi, g2, m2, acc, vs, sr, ex, re, hD, ra, la, qa⟩
  by_cases hlt : i < w.its.length
  · rw [List.drop_eq_getElem_cons hlt] at qa
    obtain ⟨okg, qa⟩ := chk_inv qa
    obtain ⟨e1', g3, qg, qa⟩ := bnd_inv qa
    obtain ⟨k, g4, qt, qa⟩ := bnd_inv qa
    obtain ⟨go, yl⟩ := (hJ _ l i H2 g2 m2 ex sr okg).1 _ (List.getElem?_eq_getElem hlt)
    refine .inr ⟨go, Wb (i + 1), fun H' p => ⟨w.its.length - (i + 1), by omega, rfl, hlt, p⟩, fun x H' y => ?_⟩
    obtain ⟨sr3, ex3, rx⟩ := yl x H' y
    refine ⟨fun a => c.F.rs a ∨ a = dd, wipeE env own, g2, m2, w.its[i], re.ext ex3 sr, sr3, rx, WP_ok qg fun σ2 H4 m4 sr4 ex4 rk => ?_⟩
    obtain ⟨kp, rr⟩ := rk
    refine ⟨by rw [show wipe σ2 own = wipe (wipe σ own) own from kp, wipe_wipe], fun a => c.F.rs a ∨ a = dd, e1', g3, m4, rr.r, sr4, WP_ok qt fun b H5 m5 sr5 ex5 rb => ?_⟩
    have : b = k := rb
    subst this
    have ex5' : Ext H2 g2 m2 H5 g4 m5 := (ex3.trans ex4).trans ex5
    cases b with
    | false =>
      rw [if_neg (by decide)] at qa ⊢
      have hD5 := (ex5'.keep dd _ hD (sr.nlv (.inr rfl))).1
      exact ⟨g4, m5, acc, vs, sr5, ex.trans ex5', re.ext ex5' sr, hD5, ra.ext ex5' sr, by omega, qa⟩
    | true =>
      rw [if_pos rfl] at qa ⊢
      obtain ⟨yd, g5, qe, qa⟩ := bnd_inv qa
      refine ⟨fun a => c.F.rs a ∨ a = dd, e1', g4, m5, rr.r.ext ex5 sr4, sr5, WP_ok qe fun yv H6 m6 sr6 ex6 ry => ?_⟩
      have ex6' : Ext H2 g2 m2 H6 g5 m6 := ex5'.trans ex6
      have hD6 := (ex6'.keep dd _ hD (sr.nlv (.inr rfl))).1
      refine ⟨vs, hD6, ?_, g5, m6, acc ++ [yd], vs ++ [yv], sr6.poke hD6 (.inr rfl), (ex.trans ex6').poke hdd, (re.ext ex6' sr).poke hD6 (.inr rfl), upd_same, ?_, ?_, qa⟩
      · have := ra.length
        have := le_lim hlim
        omega
      · refine RepL.poke hD6 (.inr (.inr rfl)) ((ra.ext ex6' sr).append ?_)
        rw [RepL.cons]
        exact ⟨yv, [], rfl, ry, by rw [RepL.nil]⟩
      · rw [List.length_append, List.length_singleton]
        omega
  · have ei : i = w.its.length := by omega
    rw [ei, List.drop_length] at qa
    obtain ⟨okg, qa⟩ := chk_inv qa
    have qa : (R.ok acc g2 : R (List D)) = .ok ys gF := qa
    have eag : ys = acc ∧ gF = g2 := by
      cases qa
      exact ⟨rfl, rfl⟩
    rw [eag.1, eag.2] at h
    refine .inl ⟨(hJ _ l i H2 g2 m2 ex sr okg).2 ei, ?_⟩
    have h3 := h.shift ex
    have nl : ¬ lv g2 m2 dd := sr.nlv (.inr rfl)
    cases cell with
    | false =>
      rw [if_neg (by decide)] at h3
      have sr' : SR c.F H2 g2 m2 := sr.less fun a z => .inl z
      refine WP_ret sr' h3 ?_
      simp only [Rep]
      refine ⟨dd, vs, rfl, hD, fun z => z.elim nl nD, ?_⟩
      exact RepL.to (F := c.F.w fun a => c.F.rs a ∨ a = dd) (rs := c.F.rs) (fun a z => .inl (.inl z)) ra
    | true =>
      rw [if_pos rfl] at h3
      obtain ⟨sc, hn, lvs⟩ := SR.claim nD sr hD ra
      have h4 := h.shift (Ext.refl H1 g1 m1)
      have h5 : WP Rep c H1 g1 m1 (newCell acc g2) Q := by
        rw [if_pos rfl] at h4
        exact h4
      refine h5 (.ref dd) H2 (m2 ++ [dd]) sc ?_ ?_
      · refine ⟨?_, fun a o q n => ?_, ex.still, fun j a q1 q2 => ?_⟩
        · obtain ⟨t, et⟩ := ex.pre
          exact ⟨t ++ [dd], by rw [et, List.append_assoc]⟩
        · obtain ⟨k1, k2⟩ := ex.keep a o q n
          refine ⟨k1, fun z => (lvs a z).elim k2 fun e => ?_⟩
          rw [e, hdd] at q
          cases q
        · by_cases hj : j < m2.length
          · rw [List.getElem?_append_left hj] at q1
            exact ex.newm j a q1 q2
          · rw [List.getElem?_append_right (by omega)] at q1
            cases hz : j - m2.length with
            | zero =>
              rw [hz] at q1
              have : dd = a := Option.some.inj q1
              rw [← this]
              exact hdd
            | succ z =>
              rw [hz] at q1
              cases q1
      · simp only [Rep]
        exact ⟨dd, rfl, hn⟩
theorem s_comp {X : Cx} {c : CF} {elt tg iter : Expr} {ifs : List Expr} {scope : Scope} {ow : List (Str × Nat)} {pos : Pos} {wf : WF} {gf : GF} {tf : TF} {ef : EF} {cell : Bool} (hc : X.calm = true) (hN : X.N.Nodup) (hi : PI X tg iter (tI c wf)) (ok : BlkOk X.N X.env.scope scope ow)
    (hg : ∀ rs (s : Shared) (H : Hp) (C : Addr) (cl : List (Str × Addr)) (fp : List Addr), PG (X.blk s H scope (compEnvC scope cl C X.env) fp) tg (tGt (c.inn rs) (kpW (ow.map (·.2))) gf))
    (ht : ∀ rs (s : Shared) (H : Hp) (C : Addr) (cl : List (Str × Addr)) (fp : List Addr), PTs (X.blk s H scope (compEnvC scope cl C X.env) fp) ifs (tT (c.inn rs) tf))
    (he : ∀ rs (s : Shared) (H : Hp) (C : Addr) (cl : List (Str × Addr)) (fp : List Addr), PE (X.blk s H scope (compEnvC scope cl C X.env) fp) elt (tE (c.inn rs) ef)) (hs : ∀ x, foldedSetIterable iter X.env x = pure x) :
    PE X (.ListComp elt [⟨tg, iter, ifs, 0⟩] scope pos) (tE c (eComp (ow.map (·.2)) wf gf tf ef cell)) :=
  PE_imp (pe_lc hc hN hi ok (fun s H C cl fp => PG_ex fun rs => hg rs s H C cl fp) (fun s H C cl fp => PTs_ex fun rs => ht rs s H C cl fp) (fun s H C cl fp => PE_ex fun rs => he rs s H C cl fp) hs) fun _ _ _ h => comp_pre h
/-- a name on the same line is stored within the block -/
theorem ss_comp {X : Cx} {c : CF} {i : Nat} {y : Str} {py : Pos} {elt tg iter : Expr} {ifs : List Expr} {scope : Scope} {ow : List (Str × Nat)} {pos spos : Pos} {wf : WF} {gf : GF} {tf : TF} {ef : EF} {cell : Bool} (hc : X.calm = true) (hN : X.N.Nodup) (hy : X.N[i]? = some y) (hyl : X.env.scope.names.lookup y = some .local)
    (hsw : swapsWith (.ListComp elt [⟨tg, iter, ifs, 0⟩] scope pos) (some (.Name y py)) spos.line X.env = pure true) (hi : PI X tg iter (tI c wf)) (ok : BlkOk X.N X.env.scope scope ow)
    (hg : ∀ rs (s : Shared) (H : Hp) (C : Addr) (cl : List (Str × Addr)) (fp : List Addr), PG (X.blk s H scope (compEnvC scope cl C X.env) fp) tg (tGt (c.inn rs) (kpW (ow.map (·.2))) gf))
    (ht : ∀ rs (s : Shared) (H : Hp) (C : Addr) (cl : List (Str × Addr)) (fp : List Addr), PTs (X.blk s H scope (compEnvC scope cl C X.env) fp) ifs (tT (c.inn rs) tf))
    (he : ∀ rs (s : Shared) (H : Hp) (C : Addr) (cl : List (Str × Addr)) (fp : List Addr), PE (X.blk s H scope (compEnvC scope cl C X.env) fp) elt (tE (c.inn rs) ef)) (hs : ∀ x, foldedSetIterable iter X.env x = pure x) :
    PS X (.Assign [.Name y py] (.ListComp elt [⟨tg, iter, ifs, 0⟩] scope pos) spos) (tAsg (tE c (eComp (ow.map (·.2)) wf gf tf ef cell)) (gName i)) :=
  PS_imp (ps_setLc hc hN hy hyl hsw hi ok (fun s H C cl fp => PG_ex fun rs => hg rs s H C cl fp) (fun s H C cl fp => PTs_ex fun rs => ht rs s H C cl fp) (fun s H C cl fp => PE_ex fun rs => he rs s H C cl fp) hs) fun _ _ _ h => comp_pre h
end L3
set_option Elab.async false
set_option linter.all false
set_option maxRecDepth 100000
set_option maxHeartbeats 4000000
namespace L3
open PySem PySem.Spec PyProof.Rows L2

/-! ### statements -/
inductive FR where
  | nx (env : Env3)
  | bk (env : Env3)
  | ct (env : Env3)
  | rt (d : D)
inductive Fl where
  | nx (σ : L2.St)
  | bk (σ : L2.St)
  | ct (σ : L2.St)
  | rt (v : V)
def RepF : RC → FR → Fl → Prop := fun C f fl => match f, fl with
  | .nx env, .nx σ => RepE C env σ
  | .bk env, .bk σ => RepE C env σ
  | .ct env, .ct σ => RepE C env σ
  | .rt d, .rt v => Rep C d v
  | _, _ => False
def endAt (D : Ends) : Fl → Hp → Prop := fun fl H => match fl with
  | .nx σ => D.nx σ H
  | .bk σ => D.bk σ H
  | .ct σ => D.ct σ H
  | .rt v => D.rt v H
abbrev SF := Env3 → M FR
def tS (c : CF) (f : SF) : TS := fun D σ H => tG RepF c f σ H (endAt D)
def sBot : SF := fun _ => bot
def sNx : SF := fun env => ret (.nx env)
def sBk : SF := fun env => ret (.bk env)
def sCt : SF := fun env => ret (.ct env)
def sSeq (f k : SF) : SF := fun env => bnd (f env) fun r => match r with
  | .nx e => k e
  | r => ret r
def sRt (f : EF) : SF := fun env => bnd (f env) fun d => ret (.rt d)
def sRtN : SF := fun _ => ret (.rt .non)
def sEx (f : EF) : SF := fun env => bnd (f env) fun _ => ret (.nx env)
def sIf (t : TF) (a b : SF) : SF := fun env => bnd (t env) fun k => if k = true then a env else b env
def sAs (f : EF) (gf : GF) : SF := fun env => bnd (f env) fun d => bnd (gf d env) fun e => ret (.nx e)
def sP2 (i j : Nat) (as : AF) : SF := fun env => bnd (as env) fun ds => match ds with
  | [x, y] => ret (.nx ((env.set i (some x)).set j (some y)))
  | _ => bot
def sP3 (i j l : Nat) (as : AF) : SF := fun env => bnd (as env) fun ds => match ds with
  | [x, y, z] => ret (.nx (((env.set i (some x)).set j (some y)).set l (some z)))
  | _ => bot
noncomputable def forL (ok : G → Prop) (gf : GF) (body : SF) : List D → Env3 → M FR
  | [], env => chk ok (ret (.nx env))
  | d :: rest, env => chk ok (bnd (gf d env) fun e1 => bnd (body e1) fun r => match r with
    | .nx e2 => forL ok gf body rest e2
    | .ct e2 => forL ok gf body rest e2
    | .bk e2 => ret (.nx e2)
    | .rt v => ret (.rt v))
noncomputable def sFor (wf : WF) (gf : GF) (body : SF) : SF := fun env => bnd (wf env) fun w => forL w.ok gf body w.its env
def whileL (t : TF) (body : SF) : Nat → Env3 → M FR
  | 0, _ => bot
  | n + 1, env => bnd (t env) fun k => if k = true then bnd (body env) fun r => (match r with
    | .nx e2 => whileL t body n e2
    | .ct e2 => whileL t body n e2
    | .bk e2 => ret (.nx e2)
    | .rt v => ret (.rt v)) else ret (.nx env)
def big : Nat := 10 ^ 40
def sWhile (t : TF) (body : SF) : SF := fun env => whileL t body big env
/-- l.append(x) -/
def appD (l x : D) : M D := match l with
  | .ref n => fun g => match g[n]? with
    | some (.lst ds) => if ds.length < lim then .ok .non (g.set n (.lst (ds ++ [x]))) else .bot
    | _ => .bot
  | _ => bot

def cellQ {α : Type} (l : D) (k : M α) : M α := fun g => match l with
  | .ref n => match g[n]? with
    | some (.lst _) => k g
    | _ => .bot
  | _ => .bot
def eApp (o a : EF) : EF := fun env => bnd (o env) fun l => cellQ l (bnd (a env) fun x => appD l x)

section
variable {X : Cx} {c : CF} {pos : Pos} {e : Expr} {fe : EF} {f k : SF}
theorem ss_bot {st : Stmt} : PS X st (tS c sBot) := ⟨fun _ _ _ _ _ _ h => (no_bot h).elim⟩
theorem sss_bot {st : List Stmt} : PSs X st (tS c sBot) := ⟨fun _ _ _ _ _ _ h => (no_bot h).elim⟩
theorem RepF.nx {C : RC} {env : Env3} {fl : Fl} (h : RepF C (.nx env) fl) : ∃ σ, fl = .nx σ ∧ RepE C env σ := by
  cases fl with
  | nx σ => exact ⟨σ, rfl, h⟩
  | bk σ => exact False.elim h
  | ct σ => exact False.elim h
  | rt σ => exact False.elim h
theorem RepF.ct {C : RC} {env : Env3} {fl : Fl} (h : RepF C (.ct env) fl) : ∃ σ, fl = .ct σ ∧ RepE C env σ := by
  cases fl with
  | ct σ => exact ⟨σ, rfl, h⟩
  | bk σ => exact False.elim h
  | nx σ => exact False.elim h
  | rt σ => exact False.elim h
theorem RepF.bk {C : RC} {env : Env3} {fl : Fl} (h : RepF C (.bk env) fl) : ∃ σ, fl = .bk σ ∧ RepE C env σ := by
  cases fl with
  | bk σ => exact ⟨σ, rfl, h⟩
  | ct σ => exact False.elim h
  | nx σ => exact False.elim h
  | rt σ => exact False.elim h
theorem RepF.rt {C : RC} {d : D} {fl : Fl} (h : RepF C (.rt d) fl) : ∃ v, fl = .rt v ∧ Rep C d v := by
  cases fl with
  | rt σ => exact ⟨σ, rfl, h⟩
  | ct σ => exact False.elim h
  | nx σ => exact False.elim h
  | bk σ => exact False.elim h
theorem endNx {D : Ends} {H : Hp} {g : G} {m : List Addr} {σ : L2.St} {env : Env3} (s : SR c.F H g m) (r : RE c.F H g m σ env) (h : WP RepF c H g m (ret (.nx env) g) (endAt D)) : D.nx σ H :=
  h (.nx σ) H m s (Ext.refl _ _ _) r.e
theorem sss_nil : PSs X [] (tS c sNx) := PSs_imp pss_nil fun D σ H ⟨env, g, m, r, s, h⟩ => endNx s r h
theorem ss_pass : PS X (.Pass pos) (tS c sNx) := PS_imp ps_pass fun D σ H ⟨env, g, m, r, s, h⟩ => endNx s r h
theorem ss_break : PS X (.Break pos) (tS c sBk) := PS_imp ps_break fun D σ H ⟨env, g, m, r, s, h⟩ => h (.bk σ) H m s (Ext.refl _ _ _) r.e
theorem ss_cont : PS X (.Continue pos) (tS c sCt) := PS_imp ps_continue fun D σ H ⟨env, g, m, r, s, h⟩ => h (.ct σ) H m s (Ext.refl _ _ _) r.e
theorem seq_pre {D : Ends} {σ : L2.St} {H : Hp} (h : tS c (sSeq f k) D σ H) : tS c f { D with nx := tS c k D } σ H := by
  obtain ⟨env, g, m, r, s, h⟩ := h
  refine ⟨env, g, m, r, s, (WP.bnd (rep1 := RepF) h).imp fun fl H1 h1 => ?_⟩
  obtain ⟨g1, m1, x, s1, e1, r1, w1⟩ := h1
  cases x with
  | nx env1 =>
    obtain ⟨σ1, rfl, r2⟩ := r1.nx
    exact ⟨env1, g1, m1, r2.r, s1, w1⟩
  | bk env1 =>
    obtain ⟨σ1, rfl, r2⟩ := r1.bk
    exact w1 (.bk σ1) H1 m1 s1 (Ext.refl _ _ _) r2
  | ct env1 =>
    obtain ⟨σ1, rfl, r2⟩ := r1.ct
    exact w1 (.ct σ1) H1 m1 s1 (Ext.refl _ _ _) r2
  | rt d =>
    obtain ⟨v, rfl, r2⟩ := r1.rt
    exact w1 (.rt v) H1 m1 s1 (Ext.refl _ _ _) r2
theorem sss_cons {st : Stmt} {rest : List Stmt} (h1 : PS X st (tS c f)) (h2 : PSs X rest (tS c k)) : PSs X (st :: rest) (tS c (sSeq f k)) := PSs_imp (pss_cons h1 h2) fun D σ H h => seq_pre h
theorem ss_ret (he : PE X e (tE c fe)) : PS X (.Return (some e) pos) (tS c (sRt fe)) := PS_imp (ps_ret he) fun D σ H ⟨env, g, m, r, s, h⟩ => by
  refine ⟨env, g, m, r, s, (WP.bnd (rep1 := Rep) h).imp fun v H1 h1 => ?_⟩
  obtain ⟨g1, m1, x, s1, e1, r1, w1⟩ := h1
  exact w1 (.rt v) H1 m1 s1 (Ext.refl _ _ _) r1
theorem ss_retN : PS X (.Return none pos) (tS c sRtN) := PS_imp ps_retN fun D σ H ⟨env, g, m, r, s, h⟩ => h (.rt .non) H m s (Ext.refl _ _ _) (show Rep (c.F.rc H g m) .non .non from rep_non)
theorem ss_expr (he : PE X e (tE c fe)) (hs : swapsWith e none pos.line X.env = pure false) : PS X (.Expr e pos) (tS c (sEx fe)) := PS_imp (ps_expr he hs) fun D σ H ⟨env, g, m, r, s, h⟩ => by
  refine ⟨env, g, m, r, s, (WP.bnd (rep1 := Rep) h).imp fun v H1 h1 => ?_⟩
  obtain ⟨g1, m1, x, s1, e1, r1, w1⟩ := h1
  exact endNx s1 (r.ext e1 s) w1
theorem ss_doc {x : Str} {j pos'} : PS X (.Expr (.Constant (.str x) j pos') pos) (tS c sNx) := PS_imp ps_doc fun D σ H ⟨env, g, m, r, s, h⟩ => endNx s r h
theorem ss_if {cc : Expr} {a b : List Stmt} {t : TF} {fa fb : SF} (hc : PT X cc (tT c t)) (ha : PSs X a (tS c fa)) (hb : PSs X b (tS c fb)) : PS X (.If cc a b pos) (tS c (sIf t fa fb)) := PS_imp (ps_if hc ha hb) fun D σ H ⟨env, g, m, r, s, h⟩ => by
  refine ⟨env, g, m, r, s, (WP.bnd (rep1 := RepB) h).imp fun v H1 h1 => ?_⟩
  obtain ⟨g1, m1, z, s1, e1, r1, h1⟩ := h1
  have : v = z := r1
  subst this
  cases v with
  | true => exact ⟨env, g1, m1, r.ext e1 s, s1, h1⟩
  | false => exact ⟨env, g1, m1, r.ext e1 s, s1, h1⟩
def kpT : L2.St → L2.St → Prop := fun _ _ => True
theorem kpT_ok : Kp kpT := ⟨fun _ => trivial, fun _ _ _ _ _ => trivial⟩
theorem asg_pre {gf : GF} {D : Ends} {σ : L2.St} {H : Hp} (h : tS c (sAs fe gf) D σ H) : tAsg (tE c fe) (tGt c kpT gf) D σ H := by
  obtain ⟨env, g, m, r, s, h⟩ := h
  refine ⟨env, g, m, r, s, (WP.bnd (rep1 := Rep) h).imp fun v H1 h1 => ?_⟩
  obtain ⟨g1, m1, x, s1, e1, r1, w1⟩ := h1
  refine ⟨env, g1, m1, x, r.ext e1 s, s1, r1, (WP.bnd (rep1 := RepK kpT σ) w1).imp fun σ2 H2 h2 => ?_⟩
  obtain ⟨g2, m2, x2, s2, e2, r2, w2⟩ := h2
  exact endNx s2 r2.2.r w2
theorem ss_asg {tg : Expr} {gf : GF} (he : PE X e (tE c fe)) (hg : PG X tg (tGt c kpT gf)) (hs : swapsWithSole [tg] e pos.line X.env = pure false) (hw : swappedStores [tg] e X.env = pure none) (h1 : (assignEach [tg] X.env).map (·.2) = [assign tg X.env]) : PS X (.Assign [tg] e pos) (tS c (sAs fe gf)) :=
  PS_imp (ps_asg he hg hs hw h1) fun D σ H h => asg_pre h
theorem ss_set {i : Nat} {x : Str} {pos' : Pos} (hN : X.N.Nodup) (hi : X.N[i]? = some x) (hx : Loc X.env.scope x) (he : PE X e (tE c fe)) (hs : swapsWith e (some (.Name x pos')) pos.line X.env = pure false) (hf : X.fn x = true ∨ X.env.scope.names.lookup x = some .local) :
    PS X (.Assign [.Name x pos'] e pos) (tS c (sAs fe (gNm i))) := PS_imp (ps_set hN hi hx he hs hf) fun D σ H ⟨env, g, m, r, s, h⟩ => by
  refine ⟨env, g, m, r, s, (WP.bnd (rep1 := Rep) h).imp fun v H1 h1 => ?_⟩
  obtain ⟨g1, m1, d, s1, e1, r1, w1⟩ := h1
  exact endNx s1 ((r.ext e1 s).set i r1) w1
/-- .. by the exchanged stores of a comprehension -/
theorem setLc_pre {i : Nat} {D : Ends} {σ : L2.St} {H : Hp} (h : tS c (sAs fe (gNm i)) D σ H) : tAsg (tE c fe) (gName i) D σ H := by
  obtain ⟨env, g, m, r, s, h⟩ := h
  refine ⟨env, g, m, r, s, (WP.bnd (rep1 := Rep) h).imp fun v H1 h1 => ?_⟩
  obtain ⟨g1, m1, d, s1, e1, r1, w1⟩ := h1
  exact endNx s1 ((r.ext e1 s).set i r1) w1
theorem p2_pre {i j : Nat} {as : AF} {D : Ends} {σ : L2.St} {H : Hp} (h : tS c (sP2 i j as) D σ H) : tPar i j (tA c as) D σ H := by
  obtain ⟨env, g, m, r, s, h⟩ := h
  refine ⟨env, g, m, r, s, (WP.bnd (rep1 := RepL) h).imp fun vs H1 h1 => ?_⟩
  obtain ⟨g1, m1, ds, s1, e1, r1, w1⟩ := h1
  split at w1
  · rename_i x y
    rw [RepL.cons] at r1
    obtain ⟨v, vs', rfl, rv, r2⟩ := r1
    rw [RepL.cons] at r2
    obtain ⟨v2, vs2, rfl, rv2, r3⟩ := r2
    rw [RepL.nil] at r3
    subst r3
    exact ⟨v, v2, rfl, endNx s1 (((r.ext e1 s).set i rv).set j rv2) w1⟩
  · exact w1.elim
theorem p3_pre {i j l : Nat} {as : AF} {D : Ends} {σ : L2.St} {H : Hp} (h : tS c (sP3 i j l as) D σ H) : tPar3 i j l (tA c as) D σ H := by
  obtain ⟨env, g, m, r, s, h⟩ := h
  refine ⟨env, g, m, r, s, (WP.bnd (rep1 := RepL) h).imp fun vs H1 h1 => ?_⟩
  obtain ⟨g1, m1, ds, s1, e1, r1, w1⟩ := h1
  split at w1
  · rename_i x y z
    rw [RepL.cons] at r1
    obtain ⟨v, vs', rfl, rv, r2⟩ := r1
    rw [RepL.cons] at r2
    obtain ⟨v2, vs2, rfl, rv2, r3⟩ := r2
    rw [RepL.cons] at r3
    obtain ⟨v3, vs3, rfl, rv3, r4⟩ := r3
    rw [RepL.nil] at r4
    subst r4
    exact ⟨v, v2, v3, rfl, endNx s1 ((((r.ext e1 s).set i rv).set j rv2).set l rv3) w1⟩
  · exact w1.elim
/-! loops -/
theorem chk_wp {α β : Type} {rep : RC → α → β → Prop} {ok : G → Prop} {H : Hp} {g : G} {m : List Addr} {r : M α} {Q : β → Hp → Prop} (h : WP rep c H g m (chk ok r g) Q) : ok g ∧ WP rep c H g m (r g) Q := by
  unfold chk at h
  split at h
  · exact ⟨by assumption, h⟩
  · exact h.elim
theorem for_pre {wf : WF} {gf : GF} {body : SF} {D : Ends} {σ : L2.St} {H : Hp} (h : tS c (sFor wf gf body) D σ H) : tFor (tI c wf) (tGt c kpT gf) (tS c body) D σ H := by
  obtain ⟨env, g, m, r, s, h⟩ := h
  refine ⟨env, g, m, r, s, ?_⟩
  unfold sFor at h
  cases qw : wf env g with
  | err x g1 =>
    unfold bnd at h
    rw [qw] at h
    exact h
  | bot =>
    unfold bnd at h
    rw [qw] at h
    exact h
  | ok w g1 =>
  rw [bnd_ok qw] at h
  intro J H1 m1 s1 e1 hJ
  have h := h.shift e1
  have r1 := r.ext e1 s
  let Wb : Nat → L2.St → Hp → Prop := fun i σ H => ∃ env g m, Ext H1 g1 m1 H g m ∧ RE c.F H g m σ env ∧ SR c.F H g m ∧ WP RepF c H g m (forL w.ok gf body (w.its.drop i) env g) (endAt D)
  refine ⟨fun i μ σ H => μ = w.its.length - i ∧ i ≤ w.its.length ∧ Wb i σ H, ⟨w.its.length, by simp, Nat.zero_le _, env, g1, m1, Ext.refl _ _ _, r1, s1, h⟩, ?_⟩
  rintro i μ σ2 H2 ⟨rfl, hi, env2, g2, m2, ex, re, sr, w2⟩
  by_cases hlt : i < w.its.length
  · rw [List.drop_eq_getElem_cons hlt] at w2
    obtain ⟨okg, w2⟩ := chk_wp w2
    obtain ⟨go, yl⟩ := (hJ c.F.rs (fun a z => .inl z) i H2 g2 m2 ex sr okg).1 _ (List.getElem?_eq_getElem hlt)
    refine .inr ⟨go, Wb (i + 1), fun σ' H' p => ⟨w.its.length - (i + 1), by omega, rfl, hlt, p⟩, fun x H' y => ?_⟩
    obtain ⟨sr3, ex3, rx⟩ := yl x H' y
    have w3 := w2.shift ex3
    refine ⟨env2, g2, m2, w.its[i], re.ext ex3 sr, sr3, rx, (WP.bnd (rep1 := RepK kpT σ2) w3).imp fun σ4 H4 h4 => ?_⟩
    obtain ⟨g4, m4, env4, s4, e4, r4, w4⟩ := h4
    refine ⟨env4, g4, m4, r4.2.r, s4, (WP.bnd (rep1 := RepF) w4).imp fun fl H5 h5 => ?_⟩
    obtain ⟨g5, m5, x5, s5, e5, r5, w5⟩ := h5
    have ex5 := ((ex.trans ex3).trans e4).trans e5
    cases x5 with
    | nx env5 =>
      obtain ⟨σ5, rfl, rr⟩ := r5.nx
      exact ⟨env5, g5, m5, ex5, rr.r, s5, w5⟩
    | ct env5 =>
      obtain ⟨σ5, rfl, rr⟩ := r5.ct
      exact ⟨env5, g5, m5, ex5, rr.r, s5, w5⟩
    | bk env5 =>
      obtain ⟨σ5, rfl, rr⟩ := r5.bk
      exact endNx s5 rr.r w5
    | rt d =>
      obtain ⟨v, rfl, rr⟩ := r5.rt
      exact w5 (.rt v) H5 m5 s5 (Ext.refl _ _ _) rr
  · have ei : i = w.its.length := by omega
    rw [ei, List.drop_length] at w2
    obtain ⟨okg, w2⟩ := chk_wp w2
    exact .inl ⟨(hJ c.F.rs (fun a z => .inl z) i H2 g2 m2 ex sr okg).2 ei, endNx sr re w2⟩
theorem ss_for {tg iter : Expr} {body : List Stmt} {wf : WF} {gf : GF} {fb : SF} (hp : PassesOwn (model X.prog X.w) X.A X.env X.xe) (hc : X.calm = true) (hi : PI X tg iter (tI c wf)) (hg : PG X tg (tGt c kpT gf)) (hb : PSs X body (tS c fb)) (hs : ∀ x, foldedSetIterable iter X.env x = pure x) :
    PS X (.For tg iter body [] pos) (tS c (sFor wf gf fb)) := PS_imp (ps_for hp hc hi hg hb hs) fun D σ H h => for_pre h
theorem while_pre {t : TF} {body : SF} {D : Ends} {σ : L2.St} {H : Hp} (h : tS c (sWhile t body) D σ H) : tWhile (tT c t) (tS c body) D σ H := by
  obtain ⟨env, g, m, r, s, h⟩ := h
  refine ⟨fun n σ H => ∃ env g m, RE c.F H g m σ env ∧ SR c.F H g m ∧ WP RepF c H g m (whileL t body n env g) (endAt D), ⟨big, env, g, m, r, s, h⟩, ?_⟩
  rintro n σ1 H1 ⟨env1, g1, m1, r1, s1, h1⟩
  cases n with
  | zero => exact h1.elim
  | succ n =>
    refine ⟨env1, g1, m1, r1, s1, (WP.bnd (rep1 := RepB) h1).imp fun b H2 h2 => ?_⟩
    obtain ⟨g2, m2, k, s2, e2, rb, w2⟩ := h2
    have : b = k := rb
    subst this
    cases b with
    | false =>
      rw [if_neg (by decide)] at w2 ⊢
      exact endNx s2 (r1.ext e2 s1) w2
    | true =>
      rw [if_pos rfl] at w2 ⊢
      refine ⟨fun σ' H' => ∃ env g m, RE c.F H' g m σ' env ∧ SR c.F H' g m ∧ WP RepF c H' g m (whileL t body n env g) (endAt D), fun σ' H' p => ⟨n, Nat.lt_succ_self n, p⟩, env1, g2, m2, r1.ext e2 s1, s2, (WP.bnd (rep1 := RepF) w2).imp fun fl H5 h5 => ?_⟩
      obtain ⟨g5, m5, x5, s5, e5, r5, w5⟩ := h5
      cases x5 with
      | nx env5 =>
        obtain ⟨σ5, rfl, rr⟩ := r5.nx
        exact ⟨env5, g5, m5, rr.r, s5, w5⟩
      | ct env5 =>
        obtain ⟨σ5, rfl, rr⟩ := r5.ct
        exact ⟨env5, g5, m5, rr.r, s5, w5⟩
      | bk env5 =>
        obtain ⟨σ5, rfl, rr⟩ := r5.bk
        exact endNx s5 rr.r w5
      | rt d =>
        obtain ⟨v, rfl, rr⟩ := r5.rt
        exact w5 (.rt v) H5 m5 s5 (Ext.refl _ _ _) rr
theorem ss_while {cc : Expr} {body : List Stmt} {t : TF} {fb : SF} (hp : PassesOwn (model X.prog X.w) X.A X.env X.xe) (hc : PT X cc (tT c t)) (hb : PSs X body (tS c fb)) : PS X (.While cc body [] pos) (tS c (sWhile t fb)) := PS_imp (ps_while hp hc hb) fun D σ H h => while_pre h
/-! append -/
theorem s_app {o a : Expr} {fo fa : EF} {apos cpos : Pos} (hK : X.K = c.F.K) (ho : PE X o (tE c fo)) (ha : PE X a (tE c fa)) (hbase : attributeBase o "append" X.env (eval o X.env) = eval o X.env)
    (hfew : ((backTo cpos (starEach [a] X.env)).all (fun x => !x.1) && (backToKw cpos (keywordEach [] X.env)).all (fun x => x.1.isSome)
      && decide (([a] : List Expr).length + ([] : List Keyword).length + (if ([] : List Keyword).isEmpty then 0 else 1) < 30)) = true) (hline : (apos.endLine == cpos.line) = true)
    (hs : starEach [a] X.env = (false, eval a X.env) :: starEach [] X.env) (hplain : (backTo cpos (starEach [] X.env)).any (·.1) = false) :
    PE X (.Call (.Attribute o "append" apos) [a] [] cpos) (tE c (eApp fo fa)) :=
  PE_imp (pe_bm PySem.F.plainAttrs_list PySem.F.slot_list_append PySem.F.type_list_append mt_append ho (sa_cons ha sa_nil hs) hbase hfew hline hs hplain) fun σ H Q h => by
    obtain ⟨env, g, m, r, s, h⟩ := h
    refine ⟨env, g, m, r, s, (WP.bnd (rep1 := Rep) h).imp fun v H1 h1 => ?_⟩
    obtain ⟨g1, m1, x, s1, e1, r1, w1⟩ := h1
    cases x with
    | ref n =>
      unfold cellQ at w1
      simp only [] at w1
      cases q : g1[n]? with
      | none => rw [q] at w1; exact w1.elim
      | some cl =>
        rw [q] at w1
        cases cl with
        | lck ds => exact w1.elim
        | dead => exact w1.elim
        | lst ds =>
          obtain ⟨a1, vs, rfl, h1, h2, h3⟩ := cell_of s1 r1 q
          refine ⟨.inl ⟨rfl, vs, by rw [hK]; exact SqL.of h2⟩, ?_⟩
          have w1 : WP Rep c H1 g1 m1 (bnd (fa env) (fun x => appD (.ref n) x) g1) Q := w1
          refine ⟨env, g1, m1, r.ext e1 s, s1, ?_⟩
          unfold bnd at w1
          cases qf : fa env g1 with
          | bot => rw [qf] at w1; exact w1.elim
          | err x g2 =>
            rw [qf] at w1
            have ea : aCons fa aNil env g1 = .err x g2 := by
              unfold aCons bnd
              rw [qf]
            rw [ea]
            exact w1
          | ok x g2 =>
            rw [qf] at w1
            have ea : aCons fa aNil env g1 = .ok [x] g2 := by
              unfold aCons bnd
              rw [qf]
              rfl
            rw [ea]
            intro xs H2 m2 s2 e2 r2
            have w1 : WP Rep c H1 g1 m1 (appD (.ref n) x g2) Q := w1
            have w2 := w1.shift e2
            rw [RepL.cons] at r2
            obtain ⟨xv, xs', rfl, rx, r3⟩ := r2
            rw [RepL.nil] at r3
            subst r3
            unfold appD at w2
            simp only [] at w2
            cases q2 : g2[n]? with
            | none => rw [q2] at w2; exact w2.elim
            | some cl =>
              rw [q2] at w2
              cases cl with
              | lck ds => exact w2.elim
              | dead => exact w2.elim
              | lst ds2 =>
                simp only [] at w2
                split at w2
                · rename_i hl
                  obtain ⟨a2, vs2, ea2, h4, h5, h6⟩ := cell_of s2 (r1.ext e2 s1) q2
                  have h1' := e2.at_ h1
                  rw [h1'] at h4
                  cases h4
                  have rn : RepL (c.F.rc H2 g2 m2) (ds2 ++ [x]) (vs2 ++ [xv]) := h6.append (by
                    rw [RepL.cons]
                    exact ⟨xv, [], rfl, rx, by rw [RepL.nil]⟩)
                  obtain ⟨s3, e3⟩ := s2.write q2 h1' rn
                  refine ⟨a1, vs2, xv, rfl, rfl, h5, by rw [h6.length]; have := lim_eq; omega, ?_⟩
                  exact w2 .non _ m2 s3 e3 (show Rep _ .non .non from rep_non)
                · exact w2.elim
    | _ => exact w1.elim
end
end L3
set_option Elab.async false
set_option linter.all false
set_option maxRecDepth 100000
set_option maxHeartbeats 8000000
namespace L3
open PySem PySem.Spec PyProof.Rows L2

/-! ### from the syntax -/
/-- a global name's meaning -/
inductive Gk where
  | fn (i : Nat)
  | cst (d : D)
  | bt
  | im (id : String)
  | ex (k : Nat)
structure Ct where
  sc : Scope
  N : List Str
  gl : List (Str × Gk)
  kw : List ((Nat × List Str) × List Nat)
  mu : List Str
  keep : Bool
  call : Nat → List D → M D
def ixOf : List Str → Str → Option Nat
  | [], _ => none
  | y :: r, x => if x == y then some 0 else (ixOf r x).map (· + 1)
theorem ixOf_get : ∀ {N : List Str} {x : Str} {i : Nat}, ixOf N x = some i → N[i]? = some x
  | [], _, _, h => by cases h
  | y :: r, x, i, h => by
    unfold ixOf at h
    split at h
    · rename_i e
      cases h
      rw [eq_of_beq e]
      rfl
    · cases q : ixOf r x with
      | none => rw [q] at h; cases h
      | some j =>
        rw [q] at h
        cases h
        have := ixOf_get q
        simpa using this
def okName (x : Str) : Bool := !(x == ("__debug__" : Str)) && !(x == ("__classdict__" : Str)) && !(x == ("__name__" : Str))
theorem okName_of {x : Str} (h : okName x = true) : (x == ("__debug__" : Str)) = false ∧ (x == ("__classdict__" : Str)) = false ∧ x ≠ "__name__" := by
  unfold okName at h
  simp only [Bool.and_eq_true, Bool.not_eq_true'] at h
  exact ⟨h.1.1, h.1.2, by simpa using h.2⟩
/-- a slot's name -/
def slotOf (C : Ct) (x : Str) : Option Nat := if okName x = true then match C.sc.names.lookup x with
  | some .local => ixOf C.N x
  | some .cell => ixOf C.N x
  | some .free => ixOf C.N x
  | _ => none else none
/-- a global name -/
def globOf (C : Ct) (x : Str) : Option Gk := if okName x = true then match C.sc.names.lookup x with
  | some .globalImplicit => C.gl.lookup x
  | _ => none else none
def isD (a b : D) : M D := match b with
  | .non => isND a
  | b => isBD a b
def isnD (a b : D) : M D := match b with
  | .non => isNND a
  | b => isNBD a b
def opF : Operator → Option (D → D → M D)
  | .Add => some addD
  | .Sub => some subD
  | .Mult => some mulD
  | .FloorDiv => some fdivD
  | .Mod => some modD
  | .Pow => some powD
  | _ => none
def cmpF : CmpOp → D → D → M D
  | .Eq => eqD
  | .NotEq => neD
  | .Lt => ltD
  | .LtE => leD
  | .Gt => gtD
  | .GtE => geD
  | .In => inD
  | .NotIn => ninD
  | .Is => isD
  | .IsNot => isnD
def btF (x : Str) : Option (List D → M D) :=
  if x == "len" then some (un lenD) else if x == "all" then some (un allD) else if x == "any" then some (un anyD) else if x == "sum" then some (un sumD) else if x == "tuple" then some (un tupD)
  else if x == "list" then some (un lstD) else if x == "int" then some (un intD) else if x == "abs" then some (un absD) else if x == "max" then some (bi max2D) else if x == "min" then some (bi min2D) else if x == "divmod" then some (bi divmodD) else none
def tyName (x : Str) : Option String :=
  if x == "int" then some "int" else if x == "bool" then some "bool" else if x == "str" then some "str" else if x == "tuple" then some "tuple" else if x == "list" then some "list" else if x == "dict" then some "dict" else none
def notStar : Expr → Bool
  | .Starred _ _ => false
  | _ => true
def plainIx : Expr → Bool
  | .Constant _ _ _ => true
  | .Name _ _ => true
  | .Call _ _ _ _ => true
  | .BinOp _ _ _ _ => true
  | .UnaryOp _ _ _ => true
  | .Subscript _ _ _ => true
  | .IfExp _ _ _ _ => true
  | _ => false
def plainT : Expr → Bool
  | .Constant _ _ _ => true
  | .Name _ _ => true
  | .Call _ _ _ _ => true
  | .BinOp _ _ _ _ => true
  | .Subscript _ _ _ => true
  | .ListComp _ _ _ _ => true
  | .List _ _ => true
  | .Tuple _ _ _ => true
  | _ => false
def cstOf : Const → EF
  | .int i => eC (.int i)
  | .bool b => eC (.bl b)
  | .none => eC .non
  | .str x => eC (.str x)
  | _ => eBot
def oNone : Env3 → M (Option Int) := fun _ => ret none
def oSome (f : EF) : Env3 → M (Option Int) := fun env => bnd (f env) fun d => match d with
  | .int i => ret (some i)
  | _ => bot
def eSl (a : EF) (lo hi : Env3 → M (Option Int)) : EF := fun env => bnd (a env) fun x => bnd (lo env) fun l => bnd (hi env) fun u => slD x l u
/-- the own names of a comprehension's block, with their slots -/
def ownOf (N : List Str) (scope : Scope) : List (Str × Nat) := scope.names.filterMap fun (n, k) => match k with
  | .local => (ixOf N n).map fun i => (n, i)
  | .cell => (ixOf N n).map fun i => (n, i)
  | _ => none
/-- a plain loop's iterable (no set display) -/
def notSet : Expr → Bool
  | .Set _ _ _ => false
  | _ => true
def isName : Expr → Bool
  | .Name _ _ => true
  | _ => false
def isTupT : Expr → Bool
  | .Tuple _ _ _ => true
  | _ => false
abbrev Ct.inn (C : Ct) (scope : Scope) : Ct := { C with sc := scope }
mutual
noncomputable def dE : Nat → Ct → Bool → Expr → EF
  | 0, _, _, _ => eBot
  | n + 1, C, cl, e => match e with
    | .Name x _ => (match slotOf C x with
      | some i => eVar i
      | none => match globOf C x with
        | some (.fn i) => eC (.fn i)
        | some (.cst d) => eC d
        | _ => eBot)
    | .Constant k _ _ => cstOf k
    | .Tuple es _ _ => eTup (dA n C es)
    | .List es _ => if cl = true then eNew (dA n C es) else eLst (dA n C es)
    | .BinOp a op b _ => (match opF op with
      | some f => eBin f (dE n C false a) (dE n C false b)
      | none => eBot)
    | .UnaryOp op a _ => (match op with
      | .USub => eUn negD (dE n C false a)
      | .Not => eNot (dE n C false a)
      | _ => eBot)
    | .BoolOp op vs _ => (match op with
      | .And => dAnd n C vs
      | .Or => dOr n C vs)
    | .IfExp t a b _ => eIf (dT n C t) (dE n C cl a) (dE n C cl b)
    | .Compare a ops bs _ => dCmp n C a ops bs
    | .Subscript a i _ => (match i with
      | .Slice lo hi none _ => eSl (dE n C false a) (dO n C lo) (dO n C hi)
      | i => if plainIx i = true then eBin idxD (dE n C false a) (dE n C false i) else eBot)
    | .Call f args kws pos => dCall n C f args kws pos
    | .ListComp elt gs scope _ => (match gs with
      | [⟨tg, iter, ifs, 0⟩] => if (notSet iter && blkC C.N C.sc scope (ownOf C.N scope)) = true then
          eComp ((ownOf C.N scope).map (·.2)) (dW n C tg iter) (dG n (C.inn scope) ((ownOf C.N scope).map (·.2)) tg) (dTs n (C.inn scope) ifs) (dE n (C.inn scope) false elt) cl else eBot
      | _ => eBot)
    | _ => eBot
noncomputable def dO : Nat → Ct → Option Expr → Env3 → M (Option Int)
  | 0, _, _ => fun _ => bot
  | n + 1, C, o => match o with
    | none => oNone
    | some e => oSome (dE n C false e)
noncomputable def dCmp : Nat → Ct → Expr → List CmpOp → List Expr → EF
  | 0, _, _, _, _ => eBot
  | n + 1, C, a, ops, bs => match ops, bs with
    | [op], [b] => if behindInMarks op b = true then eBot else eBin (cmpF op) (dE n C false a) (dE n C false b)
    | [op, op'], [b, c] => if lastMarks [op, op'] [b, c] = true then eBot else eCh (cmpF op) (cmpF op') (dE n C false a) (dE n C false b) (dE n C false c)
    | _, _ => eBot
noncomputable def dAnd : Nat → Ct → List Expr → EF
  | 0, _, _ => eBot
  | n + 1, C, vs => match vs with
    | [a] => dE n C false a
    | a :: r => eAnd (dE n C false a) (dAnd n C r)
    | _ => eBot
noncomputable def dOr : Nat → Ct → List Expr → EF
  | 0, _, _ => eBot
  | n + 1, C, vs => match vs with
    | [a] => dE n C false a
    | a :: r => eOr (dE n C false a) (dOr n C r)
    | _ => eBot
noncomputable def dA : Nat → Ct → List Expr → AF
  | 0, _, _ => aBot
  | n + 1, C, es => match es with
    | [] => aNil
    | e :: es => if notStar e = true then aCons (dE n C false e) (dA n C es) else aBot
noncomputable def dKw : Nat → Ct → List Keyword → AF
  | 0, _, _ => aBot
  | n + 1, C, es => match es with
    | [] => aNil
    | ⟨_, e, _⟩ :: es => aCons (dE n C false e) (dKw n C es)
noncomputable def dCall : Nat → Ct → Expr → List Expr → List Keyword → Pos → EF
  | 0, _, _, _, _, _ => eBot
  | n + 1, C, f, args, kws, pos => match f with
    | .Name x _ => (match kws with
      | [] => (match slotOf C x with
        | some i => (match args with
          | [] => eBot
          | a :: r => if ((a :: r).all notStar) = true then eCV C.call (eVar i) (dA n C (a :: r)) else eBot)
        | none => match globOf C x with
          | some (.fn i) => if args.all notStar = true then eCB (C.call i) (dA n C args) else eBot
          | some (.im id) => if (id == "math.gcd" && args.all notStar && !args.isEmpty) = true then eCB (bi gcdD) (dA n C args) else eBot
          | some .bt => (match args with
            | [a, .Name t p] => if (x == "isinstance") = true then (match globOf C t, tyName t with
                | some .bt, some T => if notStar a = true then eIsi T (dE n C false a) else eBot
                | _, _ => eBot) else (match btF x with
                | some f => if notStar a = true then eCB f (dA n C [a, .Name t p]) else eBot
                | none => eBot)
            | a :: r => (match btF x with
                | some f => if ((a :: r).all notStar) = true then eCB f (dA n C (a :: r)) else eBot
                | none => eBot)
            | [] => eBot)
          | _ => eBot)
      | kws => (match args with
        | [] => (match globOf C x with
          | some (.fn i) => if (kws.all fun k => k.arg.isSome) = true then (match C.kw.lookup (i, kws.filterMap fun k => k.arg) with
            | some perm => eCK (C.call i) perm aNil (dKw n C kws)
            | none => eBot) else eBot
          | _ => eBot)
        | _ => eBot))
    | .Attribute o m apos => (match kws, args with
      | [], [a] => if (m == "append" && notStar a && isName o && (apos.endLine == pos.line)) = true then eApp (dE n C false o) (dE n C false a) else eBot
      | _, _ => eBot)
    | _ => eBot
noncomputable def dT : Nat → Ct → Expr → TF
  | 0, _, _ => tBot
  | n + 1, C, e => match e with
    | .UnaryOp op a _ => (match op with
      | .Not => fNot (dT n C a)
      | _ => tBot)
    | .BoolOp op vs _ => (match op with
      | .And => dTA n C vs
      | .Or => dTO n C vs)
    | .Compare a ops bs _ => dTC n C a ops bs
    | e => if plainT e = true then tTr (dE n C false e) else tBot
noncomputable def dTC : Nat → Ct → Expr → List CmpOp → List Expr → TF
  | 0, _, _, _, _ => tBot
  | n + 1, C, a, ops, bs => match ops, bs with
    | [op], [b] => if behindInMarks op b = true then tBot else tBl (eBin (cmpF op) (dE n C false a) (dE n C false b))
    | [op, op'], [b, c] => if lastMarks [op, op'] [b, c] = true then tBot else tBl (eCh (cmpF op) (cmpF op') (dE n C false a) (dE n C false b) (dE n C false c))
    | _, _ => tBot
noncomputable def dTA : Nat → Ct → List Expr → TF
  | 0, _, _ => tBot
  | n + 1, C, vs => match vs with
    | [a] => dT n C a
    | a :: r => fAnd (dT n C a) (dTA n C r)
    | _ => tBot
noncomputable def dTO : Nat → Ct → List Expr → TF
  | 0, _, _ => tBot
  | n + 1, C, vs => match vs with
    | [a] => dT n C a
    | a :: r => fOr (dT n C a) (dTO n C r)
    | _ => tBot
noncomputable def dTs : Nat → Ct → List Expr → TF
  | 0, _, _ => tBot
  | n + 1, C, vs => match vs with
    | [] => fYes
    | [a] => dT n C a
    | _ => tBot
noncomputable def dW : Nat → Ct → Expr → Expr → WF
  | 0, _, _, _ => wBot
  | n + 1, C, tg, e => match e with
    | .Call (.Name x p) args [] pos => (match globOf C x with
      | some .bt => if (x == "range") = true then (match args with
          | [a] => if notStar a = true then wRng1 (dA n C [a]) else wBot
          | [a, b] => if (notStar a && notStar b) = true then wRng2 (dA n C [a, b]) else wBot
          | _ => wBot)
        else if (x == "zip") = true then (match args with
          | [a, b] => if (notStar a && notStar b && isTupT tg) = true then wZip (dA n C [a, b]) else wBot
          | _ => wBot)
        else if (x == "enumerate" || x == "reversed") = true then wBot else wVal (dE n C false (.Call (.Name x p) args [] pos))
      | _ => wVal (dE n C false (.Call (.Name x p) args [] pos)))
    | e => wVal (dE n C false e)
noncomputable def dG : Nat → Ct → List Nat → Expr → GF
  | 0, _, _, _ => gBot
  | n + 1, C, ow, e => match e with
    | .Name x _ => (match C.sc.names.lookup x with
      | some .local => (match ixOf C.N x with
        | some i => if i ∈ ow then gNm i else gBot
        | none => gBot)
      | some .cell => (match ixOf C.N x with
        | some i => if i ∈ ow then gNm i else gBot
        | none => gBot)
      | _ => gBot)
    | .Tuple es _ _ => if es.all notStar = true then gTp es.length (dGs n C ow es) else gBot
    | .Subscript o i _ => if plainIx i = true then gSb (dE n C false o) (dE n C false i) else gBot
    | _ => gBot
noncomputable def dGs : Nat → Ct → List Nat → List Expr → List D → Env3 → M Env3
  | 0, _, _, _ => fun _ _ => bot
  | n + 1, C, ow, es => match es with
    | [] => gsNil
    | e :: es => gsCons (dG n C ow e) (dGs n C ow es)
end
end L3
set_option Elab.async false
set_option linter.all false
set_option maxRecDepth 100000
set_option maxHeartbeats 8000000
namespace L3
open PySem PySem.Spec PyProof.Rows L2

def GkOk (mg : Str → Option Value) (c : CF) (k : Gk) (x : Str) : Prop := match k with
  | .fn i => ∃ a, mg x = some (.ref a) ∧ c.F.fa i = some a
  | .cst d => ∃ u v, mg x = some u ∧ RelV v u ∧ ∀ rs H g m, Rep ((c.F.w rs).rc H g m) d v
  | .bt => mg x = none
  | .im id => mg x = some (.builtin id)
  | .ex _ => True
def Fits (sc sc' : Scope) : Prop := ∀ x k, sc.names.lookup x = some k → sc'.names.lookup x = some k ∨ (k = .free ∧ sc'.names.lookup x = some .cell)
structure WFX (X : Cx) (C : Ct) (c : CF) : Prop where
  K : X.K = c.F.K
  calm : X.calm = true
  nd : X.N.Nodup
  N : X.N = C.N
  fits : Fits C.sc X.env.scope
  fnl : ∀ x, (C.sc.names.lookup x = some .local ∨ C.sc.names.lookup x = some .cell) → X.fn x = true ∨ X.env.scope.names.lookup x = some .local
  mg : ∀ x k, C.gl.lookup x = some k → GkOk X.mg c k x
  fns : ∀ i a, c.F.fa i = some a → FnH X c C.call C.kw i a
  pass : Passes (L2.CX X.prog X.w) X c.E
  room : ∃ k, Room k X.A
section
variable {X : Cx} {C : Ct} {c : CF}
theorem WFX.hu (W : WFX X C c) : X.A.units + 65 < cLine := by
  obtain ⟨k, r⟩ := W.room
  have := r.un
  omega
theorem slotOf_ok (W : WFX X C c) {x : Str} {i : Nat} (h : slotOf C x = some i) : X.N[i]? = some x ∧ Vis X.env.scope x ∧ (x == ("__debug__" : Str)) = false ∧ (x == ("__classdict__" : Str)) = false := by
  unfold slotOf at h
  split at h
  · rename_i ho
    obtain ⟨h1, h2, h3⟩ := okName_of ho
    have fin : ∀ k, C.sc.names.lookup x = some k → (k = .local ∨ k = .cell ∨ k = .free) → ixOf C.N x = some i → X.N[i]? = some x ∧ Vis X.env.scope x ∧ (x == ("__debug__" : Str)) = false ∧ (x == ("__classdict__" : Str)) = false := fun k hk hk2 hi => by
      refine ⟨by rw [W.N]; exact ixOf_get hi, ?_, h1, h2⟩
      rcases W.fits x k hk with q | ⟨_, q⟩
      · rcases hk2 with rfl | rfl | rfl
        · exact .inl q
        · exact .inr (.inl q)
        · exact .inr (.inr q)
      · exact .inr (.inl q)
    split at h
    · exact fin .local (by assumption) (.inl rfl) h
    · exact fin .cell (by assumption) (.inr (.inl rfl)) h
    · exact fin .free (by assumption) (.inr (.inr rfl)) h
    · cases h
  · cases h
theorem globOf_ok (W : WFX X C c) {x : Str} {k : Gk} (h : globOf C x = some k) : Gl X x ∧ GkOk X.mg c k x ∧ (x == ("__debug__" : Str)) = false ∧ x ≠ "__name__" := by
  unfold globOf at h
  split at h
  · rename_i ho
    obtain ⟨h1, h2, h3⟩ := okName_of ho
    split at h
    · rename_i hk
      refine ⟨?_, W.mg x k h, h1, h3⟩
      rcases W.fits x _ hk with q | ⟨q, _⟩
      · exact q
      · cases q
    · cases h
  · cases h
theorem notStar_each {e : Expr} {es : List Expr} {env : Env} (h : notStar e = true) : starEach (e :: es) env = (false, eval e env) :: starEach es env := by
  cases e <;> first | rfl | cases h
theorem plain_each {pos : Pos} {env : Env} : ∀ {es : List Expr}, es.all notStar = true → (backTo pos (starEach es env)).any (·.1) = false
  | [], _ => rfl
  | e :: es, h => by
    rw [List.all_cons, Bool.and_eq_true] at h
    rw [notStar_each h.1]
    have := plain_each (pos := pos) (env := env) h.2
    unfold backTo at this ⊢
    rw [List.map_cons, List.any_cons, this]
    rfl
theorem plainIx_ok {b : Expr} (h : plainIx b = true) : PlainIx b := by
  cases b <;> first | (intro o i; rfl) | cases h
theorem plainT_ok {a : Expr} {env : Env} (h : plainT a = true) (whole : Sem Value) : isTrue a env whole = (do let v ← whole; standAt a.pos; holding [v] (truthy v)) := by
  cases a <;> first | rfl | cases h
theorem opF_ok (W : WFX X C c) {op : Operator} {f : D → D → M D} (h : opF op = some f) : OpR X (binaryOp op) (rD c f) := by
  cases op <;> first | (cases h; first | exact op_addD W.K | exact op_subD | exact op_mulD W.K | exact op_fdivD | exact op_modD | exact op_powD) | cases h
theorem op_isD : OpR X (compareOp .Is) (rD c isD) := OpR_imp (op_isN.or op_isBD) fun x y H Q h => by
  obtain ⟨g, m, d, e, s, r1, r2, w⟩ := h
  cases e with
  | non =>
    refine .inl ⟨non_of r2, ?_⟩
    have w : WP Rep c H g m (ret (.bl (isNonD d)) g) Q := w
    rw [isNon_v r1]
    exact WP_ret s w rep_bl
  | bl b => exact .inr ⟨g, m, d, .bl b, s, r1, r2, w⟩
  | int b => exact .inr ⟨g, m, d, .int b, s, r1, r2, w⟩
  | str b => exact .inr ⟨g, m, d, .str b, s, r1, r2, w⟩
  | tup b => exact .inr ⟨g, m, d, .tup b, s, r1, r2, w⟩
  | lst b => exact .inr ⟨g, m, d, .lst b, s, r1, r2, w⟩
  | scr b => exact .inr ⟨g, m, d, .scr b, s, r1, r2, w⟩
  | dic a b => exact .inr ⟨g, m, d, .dic a b, s, r1, r2, w⟩
  | fn b => exact .inr ⟨g, m, d, .fn b, s, r1, r2, w⟩
  | exn a b => exact .inr ⟨g, m, d, .exn a b, s, r1, r2, w⟩
  | ref b => exact .inr ⟨g, m, d, .ref b, s, r1, r2, w⟩
theorem op_isnD : OpR X (compareOp .IsNot) (rD c isnD) := OpR_imp (op_notN.or op_isNBD) fun x y H Q h => by
  obtain ⟨g, m, d, e, s, r1, r2, w⟩ := h
  cases e with
  | non =>
    refine .inl ⟨non_of r2, ?_⟩
    have w : WP Rep c H g m (ret (.bl (!isNonD d)) g) Q := w
    rw [isNon_v r1]
    exact WP_ret s w rep_bl
  | bl b => exact .inr ⟨g, m, d, .bl b, s, r1, r2, w⟩
  | int b => exact .inr ⟨g, m, d, .int b, s, r1, r2, w⟩
  | str b => exact .inr ⟨g, m, d, .str b, s, r1, r2, w⟩
  | tup b => exact .inr ⟨g, m, d, .tup b, s, r1, r2, w⟩
  | lst b => exact .inr ⟨g, m, d, .lst b, s, r1, r2, w⟩
  | scr b => exact .inr ⟨g, m, d, .scr b, s, r1, r2, w⟩
  | dic a b => exact .inr ⟨g, m, d, .dic a b, s, r1, r2, w⟩
  | fn b => exact .inr ⟨g, m, d, .fn b, s, r1, r2, w⟩
  | exn a b => exact .inr ⟨g, m, d, .exn a b, s, r1, r2, w⟩
  | ref b => exact .inr ⟨g, m, d, .ref b, s, r1, r2, w⟩
theorem cmpF_ok (W : WFX X C c) (op : CmpOp) : OpR X (compareOp op) (rD c (cmpF op)) := by
  have hu := W.hu
  cases op
  case Eq => exact op_eqDD W.K (by omega)
  case NotEq => exact op_neDD W.K (by omega)
  case Lt => exact op_ltD W.K (by omega)
  case LtE => exact op_leD
  case Gt => exact op_gtD
  case GtE => exact op_geD
  case In => exact op_inDD W.K hu
  case NotIn => exact op_ninDD W.K hu
  case Is => exact op_isD
  case IsNot => exact op_isnD
theorem cst_ok {k : Const} {j : Nat} {pos : Pos} : PE X (.Constant k j pos) (tE c (cstOf k)) := by
  cases k <;> first
    | exact s_c pe_int fun _ _ _ => rep_int
    | exact s_c pe_bl fun _ _ _ => rep_bl
    | exact s_c pe_non fun _ _ _ => rep_non
    | exact s_c pe_str fun _ _ _ => rep_str
    | exact s_bot
theorem bt_ok (W : WFX X C c) {x : Str} {f : List D → M D} (h : btF x = some f) (hg : Gl X x) (hm : X.mg x = none) {e : Expr} {es : List Expr} {as : AF} {p pos : Pos} (ha : PA X (e :: es) (tA c as)) (hst : (e :: es).all notStar = true) :
    PE X (.Call (.Name x p) (e :: es) [] pos) (tE c (eCB f as)) := by
  rw [List.all_cons, Bool.and_eq_true] at hst
  have he := notStar_each (es := es) (env := X.env) hst.1
  have hpl := plain_each (pos := pos) (env := X.env) hst.2
  unfold btF at h
  iterate 11
    (split at h
     · rename_i hx
       have hx := eq_of_beq hx
       subst hx
       cases h
       first
         | exact PE_imp (pe_callB (cl_len W.K) hg hm boot_len ha (by decide) (by decide) he hpl) fun _ _ _ h => cb_pre h
         | exact PE_imp (pe_callB (cl_all W.calm W.K) hg hm boot_all ha (by decide) (by decide) he hpl) fun _ _ _ h => cb_pre h
         | exact PE_imp (pe_callB (cl_any W.calm W.K) hg hm boot_any ha (by decide) (by decide) he hpl) fun _ _ _ h => cb_pre h
         | exact PE_imp (pe_callB (cl_sum W.calm W.K) hg hm boot_sum ha (by decide) (by decide) he hpl) fun _ _ _ h => cb_pre h
         | exact PE_imp (pe_callTy (cl_tuple W.K) hg hm boot_tuple ha (by decide) (by decide) he hpl) fun _ _ _ h => cb_pre h
         | exact PE_imp (pe_callTy (cl_list W.K) hg hm boot_list ha (by decide) (by decide) he hpl) fun _ _ _ h => cb_pre h
         | exact PE_imp (pe_callTy cl_int hg hm boot_int ha (by decide) (by decide) he hpl) fun _ _ _ h => cb_pre h
         | exact PE_imp (pe_callB cl_abs hg hm boot_abs ha (by decide) (by decide) he hpl) fun _ _ _ h => cb_pre h
         | exact PE_imp (pe_callB (cl_max2 W.calm) hg hm boot_max ha (by decide) (by decide) he hpl) fun _ _ _ h => cb_pre h
         | exact PE_imp (pe_callB (cl_min2 W.calm) hg hm boot_min ha (by decide) (by decide) he hpl) fun _ _ _ h => cb_pre h
         | exact PE_imp (pe_callB cl_divmod hg hm boot_divmod ha (by decide) (by decide) he hpl) fun _ _ _ h => cb_pre h)
  cases h
theorem gcd_ok {x : Str} (hg : Gl X x) (hm : X.mg x = some (.builtin "math.gcd")) {e : Expr} {es : List Expr} {as : AF} {p pos : Pos} (ha : PA X (e :: es) (tA c as)) (hst : (e :: es).all notStar = true) (hdb : (x == ("__debug__" : Str)) = false) :
    PE X (.Call (.Name x p) (e :: es) [] pos) (tE c (eCB (bi gcdD) as)) := by
  rw [List.all_cons, Bool.and_eq_true] at hst
  exact PE_imp (pe_callBfun cl_gcd hg hm ha hdb (notStar_each hst.1) (plain_each hst.2)) fun _ _ _ h => cb_pre h
theorem tyName_ok {t : Str} {T : String} (h : tyName t = some T) : bootBuiltins t = some (.type T) := by
  unfold tyName at h
  iterate 6
    (split at h
     · rename_i hx
       have hx := eq_of_beq hx
       subst hx
       cases h
       first | exact boot_int | exact boot_bool | exact boot_str | exact boot_tuple | exact boot_list | exact boot_dict)
  cases h
theorem isi_ok (W : WFX X C c) {x t : Str} {T : String} (hx : x = "isinstance") (hg : Gl X x) (hm : X.mg x = none) (hgt : Gl X t) (hmt : X.mg t = none) (hT : tyName t = some T) (hdt : (t == ("__debug__" : Str)) = false) (hnt : t ≠ "__name__") {a : Expr} {fa : EF} {p q pos : Pos}
    (ha : PE X a (tE c fa)) (hst : notStar a = true) : PE X (.Call (.Name x p) [a, .Name t q] [] pos) (tE c (eIsi T fa)) := by
  subst hx
  have ht : PE X (.Name t q) (tC (.ty T)) := pe_bltn hgt hmt (tyName_ok hT) rfl hnt hdt
  refine PE_imp (pe_callB call_isi hg hm boot_isinstance (pa_cons ha (pa_cons ht pa_nil (notStar_each rfl)) (notStar_each hst)) (by decide) (by decide) (notStar_each hst) (plain_each rfl)) fun σ H Q h => ?_
  obtain ⟨env, g, m, r, s, h⟩ := h
  refine ⟨env, g, m, r, s, (WP.bnd (rep1 := Rep) h).imp fun v H1 h1 => ?_⟩
  obtain ⟨g1, m1, d, s1, e1, r1, w1⟩ := h1
  exact isi_read W.K s1 r1 w1
theorem s_slice (W : WFX X C c) {e : Expr} {lo hi : Option Expr} {fe : EF} {fl fh : Env3 → M (Option Int)} {p2 pos : Pos} (he : PE X e (tE c fe))
    (hl : PO X lo fun σ H Q => tG (fun _ a b => b = a) c fl σ H Q) (hh : PO X hi fun σ H Q => tG (fun _ a b => b = a) c fh σ H Q) : PE X (.Subscript e (.Slice lo hi none p2) pos) (tE c (eSl fe fl fh)) :=
  PE_imp (pe_slice (sl_D W.K) he hl hh) fun σ H Q h => by
    obtain ⟨env, g, m, r, s, h⟩ := h
    refine ⟨env, g, m, r, s, (WP.bnd (rep1 := Rep) h).imp fun v H1 h1 => ?_⟩
    obtain ⟨g1, m1, d, s1, e1, r1, w1⟩ := h1
    refine ⟨env, g1, m1, r.ext e1 s, s1, (WP.bnd (rep1 := fun _ a b => b = a) w1).imp fun l H2 h2 => ?_⟩
    obtain ⟨g2, m2, l2, s2, e2, r2, w2⟩ := h2
    subst r2
    refine ⟨env, g2, m2, (r.ext e1 s).ext e2 s1, s2, (WP.bnd (rep1 := fun _ a b => b = a) w2).imp fun u H3 h3 => ?_⟩
    obtain ⟨g3, m3, u3, s3, e3, r3, w3⟩ := h3
    subst r3
    exact ⟨g3, m3, d, s3, (r1.ext e2 s1).ext e3 s2, w3⟩
theorem PO_imp {e : Option Expr} {t t' : TO} (h : PO X e t) (i : ∀ σ H Q, t' σ H Q → t σ H Q) : PO X e t' := ⟨fun pins s σ H Q I q => h.run pins s σ H Q I (i σ H Q q)⟩
theorem so_none : PO X none fun σ H Q => tG (fun _ a b => b = a) c oNone σ H Q := PO_imp po_none fun σ H Q ⟨env, g, m, r, s, h⟩ => h none H m s (Ext.refl _ _ _) rfl
theorem so_some {e : Expr} {fe : EF} (he : PE X e (tE c fe)) : PO X (some e) fun σ H Q => tG (fun _ a b => b = a) c (oSome fe) σ H Q := PO_imp (po_some he) fun σ H Q ⟨env, g, m, r, s, h⟩ => by
  refine ⟨env, g, m, r, s, (WP.bnd (rep1 := Rep) h).imp fun v H1 h1 => ?_⟩
  obtain ⟨g1, m1, d, s1, e1, r1, w1⟩ := h1
  cases d with
  | int i => exact ⟨i, int_of r1, w1 (some i) H1 m1 s1 (Ext.refl _ _ _) rfl⟩
  | _ => exact w1.elim
/-! ### a comprehension's block -/
theorem lookup_relS_free {sc : Scope} : ∀ {names : List (Str × NameKind)} {x : Str}, names.lookup x = some .free →
    (names.map fun (n, k) => if (k == NameKind.free && sc.kind == .function && sc.names.lookup n == some .cell) then (n, NameKind.cell) else (n, k)).lookup x = some .free ∨
    (names.map fun (n, k) => if (k == NameKind.free && sc.kind == .function && sc.names.lookup n == some .cell) then (n, NameKind.cell) else (n, k)).lookup x = some .cell
  | [], _, h => by simp at h
  | (n, k) :: r, x, h => by
    have ih := @lookup_relS_free sc r x
    cases hx : x == n with
    | true =>
      simp only [List.lookup_cons, hx] at h
      cases h
      by_cases hc : (NameKind.free == NameKind.free && sc.kind == .function && sc.names.lookup n == some .cell) = true
      · right
        rw [List.map_cons]
        simp only []
        rw [if_pos hc]
        simp only [List.lookup_cons, hx]
      · left
        rw [List.map_cons]
        simp only []
        rw [if_neg hc]
        simp only [List.lookup_cons, hx]
    | false =>
      simp only [List.lookup_cons, hx] at h
      rw [List.map_cons]
      simp only []
      by_cases hc : (k == NameKind.free && sc.kind == .function && sc.names.lookup n == some .cell) = true
      · rw [if_pos hc]
        simp only [List.lookup_cons, hx]
        exact ih h
      · rw [if_neg hc]
        simp only [List.lookup_cons, hx]
        exact ih h
theorem blk_ok (W : WFX X C c) {scope : Scope} (rs : Addr → Prop) (s : Shared) (H : Hp) (Cc : Addr) (cl : List (Str × Addr)) (fp : List Addr) : WFX (X.blk s H scope (compEnvC scope cl Cc X.env) fp) (C.inn scope) (c.inn rs) where
  K := W.K
  calm := W.calm
  nd := W.nd
  N := W.N
  fits := fun x k h => by
    have h : scope.names.lookup x = some k := h
    show ((scope.names.map fun (n, k) => if (k == NameKind.free && X.env.scope.kind == .function && X.env.scope.names.lookup n == some .cell) then (n, NameKind.cell) else (n, k)).lookup x = some k ∨ (k = .free ∧ _))
    by_cases hk : k = .free
    · subst hk
      rcases lookup_relS_free (sc := X.env.scope) h with q | q
      · exact .inl q
      · exact .inr ⟨rfl, q⟩
    · exact .inl (lookup_relS_keep (sc := X.env.scope) hk h)
  fnl := fun x h => by
    rcases h with h | h
    · exact .inr (lookup_relS_keep (sc := X.env.scope) (by decide) (show scope.names.lookup x = some .local from h))
    · refine .inl ?_
      show (scope.names.lookup x == some .cell) = true
      rw [show scope.names.lookup x = some .cell from h]
      rfl
  mg := fun x k h => by
    have := W.mg x k h
    cases k with
    | cst d =>
      obtain ⟨u, v, h1, h2, h3⟩ := this
      exact ⟨u, v, h1, h2, h3⟩
    | _ => exact this
  fns := fun i a h => ⟨(W.fns i a h).ex⟩
  pass := fun _ _ _ _ _ _ _ h => by
    obtain ⟨_, _, _, _, _, _, _, _, _, _, _, _, z⟩ := h
    exact z.elim
  room := W.room
theorem blkOk_fit {N : List Str} {sc sc' scope : Scope} {own : List (Str × Nat)} (h : BlkOk N sc scope own) (f : Fits sc sc') : BlkOk N sc' scope own where
  kind := h.kind
  uniq := h.uniq
  ix := h.ix
  free := fun y hy e => by
    rcases h.free y hy e with q | q
    · rcases f _ _ q with q | ⟨q, _⟩
      · exact .inl q
      · cases q
    · rcases f _ _ q with q | ⟨_, q⟩
      · exact .inr q
      · exact .inl q
  own := h.own
end
end L3
set_option Elab.async false
set_option linter.all false
set_option maxRecDepth 100000
set_option maxHeartbeats 8000000
namespace L3
open PySem PySem.Spec PyProof.Rows L2

/-- all readings at a depth -/
structure DenOk (n : Nat) : Prop where
  e : ∀ {X : Cx} {C : Ct} {c : CF}, WFX X C c → ∀ cl e, PE X e (tE c (dE n C cl e))
  o : ∀ {X : Cx} {C : Ct} {c : CF}, WFX X C c → ∀ e, PO X e fun σ H Q => tG (fun _ a b => b = a) c (dO n C e) σ H Q
  cmp : ∀ {X : Cx} {C : Ct} {c : CF}, WFX X C c → ∀ a ops bs pos, PE X (.Compare a ops bs pos) (tE c (dCmp n C a ops bs))
  and : ∀ {X : Cx} {C : Ct} {c : CF}, WFX X C c → ∀ vs pos, PE X (.BoolOp .And vs pos) (tE c (dAnd n C vs))
  or : ∀ {X : Cx} {C : Ct} {c : CF}, WFX X C c → ∀ vs pos, PE X (.BoolOp .Or vs pos) (tE c (dOr n C vs))
  a : ∀ {X : Cx} {C : Ct} {c : CF}, WFX X C c → ∀ es, PA X es (tA c (dA n C es))
  kw : ∀ {X : Cx} {C : Ct} {c : CF}, WFX X C c → ∀ es, PK X es (tA c (dKw n C es))
  call : ∀ {X : Cx} {C : Ct} {c : CF}, WFX X C c → ∀ f args kws pos, PE X (.Call f args kws pos) (tE c (dCall n C f args kws pos))
  t : ∀ {X : Cx} {C : Ct} {c : CF}, WFX X C c → ∀ e, PT X e (tT c (dT n C e))
  tc : ∀ {X : Cx} {C : Ct} {c : CF}, WFX X C c → ∀ a ops bs pos, PT X (.Compare a ops bs pos) (tT c (dTC n C a ops bs))
  ta : ∀ {X : Cx} {C : Ct} {c : CF}, WFX X C c → ∀ vs pos, PW X (.BoolOp .And vs pos) (tT c (dTA n C vs))
  to : ∀ {X : Cx} {C : Ct} {c : CF}, WFX X C c → ∀ vs pos, PW X (.BoolOp .Or vs pos) (tT c (dTO n C vs))
  ts : ∀ {X : Cx} {C : Ct} {c : CF}, WFX X C c → ∀ vs, PTs X vs (tT c (dTs n C vs))
  w : ∀ {X : Cx} {C : Ct} {c : CF}, WFX X C c → ∀ tg e, PI X tg e (tI c (dW n C tg e))
  g : ∀ {X : Cx} {C : Ct} {c : CF} {kp : L2.St → L2.St → Prop}, WFX X C c → Kp kp → ∀ ow : List Nat, (∀ i ∈ ow, ∀ σ v, kp σ (σ.set i v)) → ∀ tg, PG X tg (tGt c kp (dG n C ow tg))
  gs : ∀ {X : Cx} {C : Ct} {c : CF} {kp : L2.St → L2.St → Prop}, WFX X C c → Kp kp → ∀ ow : List Nat, (∀ i ∈ ow, ∀ σ v, kp σ (σ.set i v)) → ∀ tg, tg.all notStar = true → PGs X tg (tGts c kp (dGs n C ow tg))
section
variable {X : Cx} {C : Ct} {c : CF} {n : Nat}
theorem sts_bot {e : List Expr} : PTs X e (tT c tBot) := ⟨fun _ _ _ _ _ _ h => (no_bot h).elim⟩
theorem sk_bot {e : List Keyword} : PK X e (tA c aBot) := ⟨fun _ _ _ _ _ _ _ h => (no_bot h).elim⟩
theorem sgs_bot {kp : L2.St → L2.St → Prop} {e : List Expr} : PGs X e (tGts c kp fun _ _ => bot) := ⟨fun _ _ _ _ _ _ _ _ _ ⟨_, _, _, _, _, _, _, h⟩ => h.elim⟩
theorem so_bot {e : Option Expr} : PO X e fun σ H Q => tG (fun _ a b => b = a) c (fun _ => bot) σ H Q := ⟨fun _ _ _ _ _ _ h => (no_bot h).elim⟩
theorem den_zero : DenOk 0 where
  e := fun _ _ _ => s_bot
  o := fun _ _ => so_bot
  cmp := fun _ _ _ _ _ => s_bot
  and := fun _ _ _ => s_bot
  or := fun _ _ _ => s_bot
  a := fun _ _ => sa_bot
  kw := fun _ _ => sk_bot
  call := fun _ _ _ _ _ => s_bot
  t := fun _ _ => st_bot
  tc := fun _ _ _ _ _ => st_bot
  ta := fun _ _ _ => sw_bot
  to := fun _ _ _ => sw_bot
  ts := fun _ _ => sts_bot
  w := fun _ _ _ => si_bot
  g := fun _ _ _ _ _ => sg_bot
  gs := fun _ _ _ _ _ _ => sgs_bot
theorem step_o (D : DenOk n) (W : WFX X C c) (e : Option Expr) : PO X e fun σ H Q => tG (fun _ a b => b = a) c (dO (n + 1) C e) σ H Q := by
  cases e with
  | none => exact so_none
  | some e => exact so_some (D.e W false e)
theorem step_cmp (D : DenOk n) (W : WFX X C c) (a : Expr) (ops : List CmpOp) (bs : List Expr) (pos : Pos) : PE X (.Compare a ops bs pos) (tE c (dCmp (n + 1) C a ops bs)) := by
  unfold dCmp
  split
  · split
    · exact s_bot
    · rename_i h
      exact s_cmp (cmpF_ok W _) (D.e W _ _) (D.e W _ _) (by simpa using h)
  · split
    · exact s_bot
    · rename_i h
      exact s_chain (cmpF_ok W _) (cmpF_ok W _) (D.e W _ _) (D.e W _ _) (D.e W _ _) (by simpa using h)
  · exact s_bot
theorem step_tc (D : DenOk n) (W : WFX X C c) (a : Expr) (ops : List CmpOp) (bs : List Expr) (pos : Pos) : PT X (.Compare a ops bs pos) (tT c (dTC (n + 1) C a ops bs)) := by
  unfold dTC
  split
  · split
    · exact st_bot
    · rename_i h
      exact st_cmp (cmpF_ok W _) (D.e W _ _) (D.e W _ _) (by simpa using h)
  · split
    · exact st_bot
    · rename_i h
      exact st_chain (cmpF_ok W _) (cmpF_ok W _) (D.e W _ _) (D.e W _ _) (D.e W _ _) (by simpa using h)
  · exact st_bot
theorem step_and (D : DenOk n) (W : WFX X C c) (vs : List Expr) (pos : Pos) : PE X (.BoolOp .And vs pos) (tE c (dAnd (n + 1) C vs)) := by
  cases vs with
  | nil => exact s_bot
  | cons a r =>
    cases r with
    | nil => exact pe_one (D.e W _ _)
    | cons b r => exact s_and W.K (D.e W _ _) (D.and W _ _)
theorem step_or (D : DenOk n) (W : WFX X C c) (vs : List Expr) (pos : Pos) : PE X (.BoolOp .Or vs pos) (tE c (dOr (n + 1) C vs)) := by
  cases vs with
  | nil => exact s_bot
  | cons a r =>
    cases r with
    | nil => exact pe_one (D.e W _ _)
    | cons b r => exact s_or W.K (D.e W _ _) (D.or W _ _)
theorem step_ta (D : DenOk n) (W : WFX X C c) (vs : List Expr) (pos : Pos) : PW X (.BoolOp .And vs pos) (tT c (dTA (n + 1) C vs)) := by
  cases vs with
  | nil => exact sw_bot
  | cons a r =>
    cases r with
    | nil => exact sw_and1 (D.t W _)
    | cons b r => exact sw_and (D.t W _) (D.ta W _ _)
theorem step_to (D : DenOk n) (W : WFX X C c) (vs : List Expr) (pos : Pos) : PW X (.BoolOp .Or vs pos) (tT c (dTO (n + 1) C vs)) := by
  cases vs with
  | nil => exact sw_bot
  | cons a r =>
    cases r with
    | nil => exact sw_or1 (D.t W _)
    | cons b r => exact sw_or (D.t W _) (D.to W _ _)
theorem step_ts (D : DenOk n) (W : WFX X C c) (vs : List Expr) : PTs X vs (tT c (dTs (n + 1) C vs)) := by
  cases vs with
  | nil => exact sts_nil
  | cons a r =>
    cases r with
    | nil => exact sts_one (D.t W _)
    | cons b r => exact sts_bot
theorem step_a (D : DenOk n) (W : WFX X C c) (es : List Expr) : PA X es (tA c (dA (n + 1) C es)) := by
  cases es with
  | nil => exact sa_nil
  | cons e es =>
    unfold dA
    simp only []
    split
    · exact sa_cons (D.e W _ _) (D.a W _) (notStar_each (by assumption))
    · exact sa_bot
theorem step_kw (D : DenOk n) (W : WFX X C c) (es : List Keyword) : PK X es (tA c (dKw (n + 1) C es)) := by
  cases es with
  | nil => exact sk_nil
  | cons e es =>
    obtain ⟨nm, e, p⟩ := e
    exact sk_cons (D.e W _ _) (D.kw W _)
theorem step_t (D : DenOk n) (W : WFX X C c) (e : Expr) : PT X e (tT c (dT (n + 1) C e)) := by
  unfold dT
  split
  · split
    · exact st_not (D.t W _)
    · exact st_bot
  · split
    · exact (D.ta W _ _).pt
    · exact (D.to W _ _).pt
  · exact D.tc W _ _ _ _
  · split
    · exact st_tru W.K (D.e W _ _) (plainT_ok (by assumption))
    · exact st_bot
theorem step_w (D : DenOk n) (W : WFX X C c) (tg e : Expr) : PI X tg e (tI c (dW (n + 1) C tg e)) := by
  unfold dW
  split
  · rename_i x p args pos
    split
    · rename_i hg
      obtain ⟨h1, h2, h3, h4⟩ := globOf_ok W hg
      split
      · rename_i hx
        have hx := eq_of_beq hx
        subst hx
        split
        · split
          · rename_i hs
            exact si_rng1 h1 h2 (D.a W _) (notStar_each hs)
          · exact si_bot
        · split
          · rename_i hs
            rw [Bool.and_eq_true] at hs
            exact si_rng2 h1 h2 (D.a W _) (by rw [notStar_each hs.1, notStar_each hs.2]; rfl) (notStar_each hs.2)
          · exact si_bot
        · exact si_bot
      · split
        · rename_i hx
          have hx := eq_of_beq hx
          subst hx
          split
          · split
            · rename_i hs
              rw [Bool.and_eq_true, Bool.and_eq_true] at hs
              cases tg with
              | Tuple elts kk tpos => exact si_zip W.K h1 h2 (D.a W _) (notStar_each hs.1.1) (plain_each (by rw [List.all_cons, hs.1.2]; rfl))
              | _ => exact absurd hs.2 (by intro z; cases z)
            · exact si_bot
          · exact si_bot
        · split
          · exact si_bot
          · exact si_val W.K (D.e W _ _)
    · exact si_val W.K (D.e W _ _)
  · exact si_val W.K (D.e W _ _)
theorem assignEach_plain {e : Expr} {es : List Expr} {env : Env} (h : notStar e = true) : assignEach (e :: es) env = (false, assign e env) :: assignEach es env := by
  cases e <;> first | rfl | cases h
theorem assignEach_len {env : Env} : ∀ {es : List Expr}, es.all notStar = true → (assignEach es env).length = es.length ∧ (assignEach es env).findIdx? (·.1) = none
  | [], _ => ⟨rfl, rfl⟩
  | e :: es, h => by
    rw [List.all_cons, Bool.and_eq_true] at h
    obtain ⟨h1, h2⟩ := assignEach_len (env := env) h.2
    rw [assignEach_plain h.1]
    refine ⟨by rw [List.length_cons, List.length_cons, h1], ?_⟩
    rw [List.findIdx?_cons, h2]
    rfl
theorem step_g {kp : L2.St → L2.St → Prop} (D : DenOk n) (W : WFX X C c) (kk : Kp kp) (ow : List Nat) (ho : ∀ i ∈ ow, ∀ σ v, kp σ (σ.set i v)) (tg : Expr) : PG X tg (tGt c kp (dG (n + 1) C ow tg)) := by
  unfold dG
  split
  · rename_i x p
    split
    · rename_i hk
      split
      · rename_i i hi
        split
        · rename_i hm
          have hl : Loc X.env.scope x := by
            rcases W.fits x _ hk with q | ⟨q, _⟩
            · exact .inl q
            · cases q
          exact sg_name W.nd (by rw [W.N]; exact ixOf_get hi) hl (W.fnl x (.inl hk)) (ho i hm)
        · exact sg_bot
      · exact sg_bot
    · rename_i hk
      split
      · rename_i i hi
        split
        · rename_i hm
          have hl : Loc X.env.scope x := by
            rcases W.fits x _ hk with q | ⟨q, _⟩
            · exact .inr q
            · cases q
          exact sg_name W.nd (by rw [W.N]; exact ixOf_get hi) hl (W.fnl x (.inr hk)) (ho i hm)
        · exact sg_bot
      · exact sg_bot
    · exact sg_bot
  · split
    · rename_i hs
      obtain ⟨h1, h2⟩ := assignEach_len (env := X.env) hs
      exact sg_tup W.K W.calm (D.gs W kk ow ho _ hs) h1 h2
    · exact sg_bot
  · split
    · exact sg_sub kk (D.e W _ _) (D.e W _ _) (by
        intro v
        rename_i o i p hp
        cases i <;> first | rfl | cases hp)
    · exact sg_bot
  · exact sg_bot
theorem step_gs {kp : L2.St → L2.St → Prop} (D : DenOk n) (W : WFX X C c) (kk : Kp kp) (ow : List Nat) (ho : ∀ i ∈ ow, ∀ σ v, kp σ (σ.set i v)) (tg : List Expr) (hs : tg.all notStar = true) : PGs X tg (tGts c kp (dGs (n + 1) C ow tg)) := by
  cases tg with
  | nil => exact sgs_nil kk
  | cons e es =>
    rw [List.all_cons, Bool.and_eq_true] at hs
    exact sgs_cons kk (D.g W kk ow ho e) (D.gs W kk ow ho es hs.2) (by rw [assignEach_plain hs.1]; rfl)
theorem kwEach {pos : Pos} {env : Env} : ∀ {kws : List Keyword}, (kws.all fun k => k.arg.isSome) = true → (backToKw pos (keywordEach kws env)).all (·.1.isSome) = true ∧ (backToKw pos (keywordEach kws env)).any (·.1.isNone) = false ∧
    (backToKw pos (keywordEach kws env)).filterMap (·.1) = kws.filterMap fun k => k.arg
  | [], _ => ⟨rfl, rfl, rfl⟩
  | ⟨nm, e, p⟩ :: kws, h => by
    rw [List.all_cons, Bool.and_eq_true] at h
    obtain ⟨h1, h2, h3⟩ := kwEach (pos := pos) (env := env) h.2
    cases nm with
    | none => exact absurd h.1 (by intro z; cases z)
    | some nm =>
      have e1 : backToKw pos (keywordEach (⟨some nm, e, p⟩ :: kws) env) = (some nm, do let v ← eval e env; standAt pos; pure v) :: backToKw pos (keywordEach kws env) := rfl
      rw [e1]
      refine ⟨by rw [List.all_cons, h1]; rfl, by rw [List.any_cons, h2]; rfl, ?_⟩
      rw [List.filterMap_cons_some (by rfl), List.filterMap_cons_some (by rfl), h3]
theorem step_call (D : DenOk n) (W : WFX X C c) (f : Expr) (args : List Expr) (kws : List Keyword) (pos : Pos) : PE X (.Call f args kws pos) (tE c (dCall (n + 1) C f args kws pos)) := by
  unfold dCall
  cases f
  case Name x p =>
    dsimp only
    split
    · split
      · rename_i i hi
        obtain ⟨h1, h2, h3, h4⟩ := slotOf_ok W hi
        split
        · exact s_bot
        · split
          · rename_i a r hs
            have hs' := hs
            rw [List.all_cons, Bool.and_eq_true] at hs
            exact s_callV W.fns W.pass h1 h2 (D.a W _) h3 h4 (notStar_each hs.1) (plain_each hs.2)
          · exact s_bot
      · split
        · rename_i i hg
          obtain ⟨h1, h2, h3, h4⟩ := globOf_ok W hg
          obtain ⟨a, hm, hfa⟩ := h2
          split
          · rename_i hs
            cases args with
            | nil =>
              cases n with
              | zero =>
                have e0 : eCB (C.call i) (dA 0 C []) = eBot := rfl
                rw [e0]
                exact s_bot
              | succ n => exact s_call0 (W.fns i a hfa) W.pass h1 hm h3
            | cons e es =>
              have hs' := hs
              rw [List.all_cons, Bool.and_eq_true] at hs
              exact s_call (W.fns i a hfa) W.pass h1 hm (D.a W _) h3 (notStar_each hs.1) (plain_each hs.2)
          · exact s_bot
        · rename_i id hg
          obtain ⟨h1, h2, h3, h4⟩ := globOf_ok W hg
          split
          · rename_i hs
            rw [Bool.and_eq_true, Bool.and_eq_true] at hs
            cases args with
            | nil => exact absurd hs.2 (by decide)
            | cons e es =>
              have hid := eq_of_beq hs.1.1
              subst hid
              exact gcd_ok h1 h2 (D.a W _) hs.1.2 h3
          · exact s_bot
        · rename_i hg
          obtain ⟨h1, h2, h3, h4⟩ := globOf_ok W hg
          split
          · rename_i a t q
            split
            · rename_i hx
              split
              · rename_i T hgt hT
                obtain ⟨k1, k2, k3, k4⟩ := globOf_ok W hgt
                split
                · exact isi_ok W (eq_of_beq hx) h1 h2 k1 k2 hT k3 k4 (D.e W _ _) (by assumption)
                · exact s_bot
              · exact s_bot
            · split
              · split
                · rename_i hs
                  exact bt_ok W (by assumption) h1 h2 (D.a W _) (by rw [List.all_cons, hs]; rfl)
                · exact s_bot
              · exact s_bot
          · split
            · split
              · exact bt_ok W (by assumption) h1 h2 (D.a W _) (by assumption)
              · exact s_bot
            · exact s_bot
          · exact s_bot
        · exact s_bot
    · split
      · split
        · rename_i i hg
          obtain ⟨h1, h2, h3, h4⟩ := globOf_ok W hg
          obtain ⟨a, hm, hfa⟩ := h2
          split
          · rename_i hk
            split
            · rename_i perm hp
              obtain ⟨q1, q2, q3⟩ := kwEach (pos := pos) (env := X.env) hk
              exact s_callK (W.fns i a hfa) hp W.pass h1 hm (D.kw W _) h3 q1 (by rw [q2]; rfl) q3
            · exact s_bot
          · exact s_bot
        · exact s_bot
      · exact s_bot
  case Attribute o m apos =>
    dsimp only
    split
    · rename_i a
      split
      · rename_i hs
        rw [Bool.and_eq_true, Bool.and_eq_true, Bool.and_eq_true] at hs
        have hm := eq_of_beq hs.1.1.1
        subst hm
        cases o with
        | Name y q => exact s_app W.K (D.e W _ _) (D.e W _ _) rfl (by rw [notStar_each hs.1.1.2]; rfl) hs.2 (notStar_each hs.1.1.2) rfl
        | _ => exact absurd hs.1.2 (by intro z; cases z)
      · exact s_bot
    · exact s_bot
  all_goals exact s_bot
theorem step_e (D : DenOk n) (W : WFX X C c) (cl : Bool) (e : Expr) : PE X e (tE c (dE (n + 1) C cl e)) := by
  unfold dE
  split
  · split
    · rename_i x p i hi
      obtain ⟨h1, h2, h3, h4⟩ := slotOf_ok W hi
      exact s_var h1 h2 h3 h4
    · split
      · rename_i hg
        obtain ⟨h1, h2, h3, h4⟩ := globOf_ok W hg
        obtain ⟨a, hm, hfa⟩ := h2
        exact s_c (pe_glob (v := .ref a) h1 hm rfl h3) fun _ _ _ => by
          simp only [Rep]
          exact ⟨a, rfl, hfa⟩
      · rename_i hg
        obtain ⟨h1, h2, h3, h4⟩ := globOf_ok W hg
        obtain ⟨u, v, hm, r, h5⟩ := h2
        exact s_c (pe_glob h1 hm r h3) fun H g m => h5 c.F.rs H g m
      · exact s_bot
  · exact cst_ok
  · exact s_tup (D.a W _)
  · split
    · exact s_new (D.a W _)
    · exact s_lst (D.a W _)
  · split
    · exact s_bin (opF_ok W (by assumption)) (D.e W _ _) (D.e W _ _)
    · exact s_bot
  · split
    · exact s_neg (D.e W _ _)
    · exact s_not W.K (D.e W _ _)
    · exact s_bot
  · split
    · exact D.and W _ _
    · exact D.or W _ _
  · exact s_ife (D.t W _) (D.e W _ _) (D.e W _ _)
  · exact D.cmp W _ _ _ _
  · split
    · exact s_slice W (D.e W _ _) (D.o W _) (D.o W _)
    · split
      · exact s_ix W.K (D.e W _ _) (D.e W _ _) (plainIx_ok (by assumption))
      · exact s_bot
  · exact D.call W _ _ _ _
  · split
    · split
      · rename_i hs
        rw [Bool.and_eq_true] at hs
        refine s_comp W.calm W.nd (D.w W _ _) (blkOk_fit (by rw [W.N]; exact blkOk_by hs.2) W.fits) (fun rs s H Cc clo fp => ?_) (fun rs s H Cc clo fp => ?_) (fun rs s H Cc clo fp => ?_) fun x => ?_
        · exact D.g (blk_ok W rs s H Cc clo fp) (kpW_ok _) _ (fun i hi σ v => kpW_set hi σ v) _
        · exact D.ts (blk_ok W rs s H Cc clo fp) _
        · exact D.e (blk_ok W rs s H Cc clo fp) _ _
        · rename_i tg iter ifs
          cases iter <;> first | rfl | exact absurd hs.1 (by intro z; cases z)
      · exact s_bot
    · exact s_bot
  · exact s_bot
end
theorem den_ok : ∀ n, DenOk n
  | 0 => den_zero
  | n + 1 =>
    have D := den_ok n
    { e := fun W cl e => step_e D W cl e
      o := fun W e => step_o D W e
      cmp := fun W a ops bs pos => step_cmp D W a ops bs pos
      and := fun W vs pos => step_and D W vs pos
      or := fun W vs pos => step_or D W vs pos
      a := fun W es => step_a D W es
      kw := fun W es => step_kw D W es
      call := fun W f args kws pos => step_call D W f args kws pos
      t := fun W e => step_t D W e
      tc := fun W a ops bs pos => step_tc D W a ops bs pos
      ta := fun W vs pos => step_ta D W vs pos
      to := fun W vs pos => step_to D W vs pos
      ts := fun W vs => step_ts D W vs
      w := fun W tg e => step_w D W tg e
      g := fun W kk ow ho tg => step_g D W kk ow ho tg
      gs := fun W kk ow ho tg hs => step_gs D W kk ow ho tg hs }
end L3
set_option Elab.async false
set_option linter.all false
set_option maxRecDepth 100000
set_option maxHeartbeats 8000000
namespace L3
open PySem PySem.Spec PyProof.Rows L2

/-! ### statements from the syntax -/
def isComp : Expr → Bool
  | .ListComp _ _ _ _ => true
  | .SetComp _ _ _ _ => true
  | .DictComp _ _ _ _ _ => true
  | _ => false
def isStarred : Expr → Bool
  | .Starred _ _ => true
  | _ => false
def swapS (sc : Scope) (ts vs : List Expr) : Option (Option (List Str)) :=
  if (!(ts.length == 2 || ts.length == 3) || vs.length != ts.length) = true then some none
  else if (vs.any fun | .Starred .. => true | _ => false) = true then some none
  else
    let line := (ts.head?.map (·.pos.line)).getD 0
    let names := ts.filterMap fun
      | .Name id pos => if sc.names.lookup id == some .local && pos.line == line then some id else none
      | _ => none
    if (names.length != ts.length || names.eraseDups.length != names.length) = true then some none
    else if vs.all (foldedForSure 8) = true then some none
    else if vs.all (constantsAlone 8) = true then none
    else some (some names)
theorem swapS_ok {env : Env} {ts vs : List Expr} {k k2 : Nat} {p p2 : Pos} {o : Option (List Str)} (hb : env.blockKind = .function) (h : swapS env.scope ts vs = some o) : swappedStores [.Tuple ts k p] (.Tuple vs k2 p2) env = pure o := by
  unfold swapS at h
  unfold swappedStores
  dsimp only at h ⊢
  rw [hb]
  split at h
  · rename_i h1
    cases h
    have : (!(ts.length == 2 || ts.length == 3) || vs.length != ts.length || ScopeKind.function != ScopeKind.function) = true := by rw [h1]; rfl
    rw [if_pos this]
  · rename_i h1
    have : ¬ (!(ts.length == 2 || ts.length == 3) || vs.length != ts.length || ScopeKind.function != ScopeKind.function) = true := by
      intro z
      rw [Bool.or_eq_true] at z
      rcases z with z | z
      · exact h1 z
      · exact absurd z (by decide)
    rw [if_neg this]
    split at h
    · rename_i h2
      cases h
      exact if_pos h2
    · rename_i h2
      refine (if_neg h2).trans ?_
      split at h
      · rename_i h3
        cases h
        exact if_pos h3
      · rename_i h3
        refine (if_neg h3).trans ?_
        split at h
        · rename_i h4
          cases h
          exact if_pos h4
        · rename_i h4
          refine (if_neg h4).trans ?_
          split at h
          · cases h
          · rename_i h5
            cases h
            exact if_neg h5
theorem sw_tup {e : Expr} {ts : List Expr} {k : Nat} {p : Pos} {l : Nat} {env : Env} : swapsWithSole [.Tuple ts k p] e l env = pure false := by
  cases e <;> rfl
theorem sw_sub {e o i : Expr} {p : Pos} {l : Nat} {env : Env} : swapsWithSole [.Subscript o i p] e l env = pure false := by
  cases e <;> rfl
theorem sw_none {e : Expr} {l : Nat} {env : Env} {tg : Option Expr} (h : isComp e = false) : swapsWith e tg l env = pure false := by
  cases e <;> first | rfl | cases h
theorem ss_tupv {ts : List Expr} {k : Nat} {p : Pos} {e : Expr} {env : Env} (h : isTupT e = false) : swappedStores [.Tuple ts k p] e env = pure none := by
  cases e <;> first | rfl | cases h
theorem ss_subv {o i : Expr} {p : Pos} {e : Expr} {env : Env} : swappedStores [.Subscript o i p] e env = pure none := by
  cases e <;> rfl

def isDoc : Expr → Bool
  | .Constant (.str _) _ _ => true
  | _ => false
instance : DecidableEq (Option (Option (List Str))) := inferInstance
noncomputable def dAs : Nat → Ct → Expr → Expr → SF
  | n, C, tg, v => match tg with
    | .Name x p => (match C.sc.names.lookup x with
      | some .local => (match ixOf C.N x with
        | some i => (match v with
          | .SetComp _ _ _ _ => sBot
          | .DictComp _ _ _ _ _ => sBot
          | v => sAs (dE n C (decide (x ∈ C.mu)) v) (gNm i))
        | none => sBot)
      | some .cell => (match ixOf C.N x with
        | some i => (match v with
          | .SetComp _ _ _ _ => sBot
          | .DictComp _ _ _ _ _ => sBot
          | v => sAs (dE n C (decide (x ∈ C.mu)) v) (gNm i))
        | none => sBot)
      | _ => sBot)
    | .Tuple ts k p => (match v with
      | .Tuple vs k2 p2 => (match swapS C.sc ts vs with
        | some none => sAs (dE n C false (.Tuple vs k2 p2)) (dG n C (List.range C.N.length) (.Tuple ts k p))
        | some (some _) => (match ts, vs with
          | [.Name x px, .Name y py], [a, b] => (match ixOf C.N x, ixOf C.N y with
            | some i, some j => if (decide (swapS C.sc [.Name x px, .Name y py] [a, b] = some (some [x, y])) && decide (i ≠ j) && (C.sc.names.lookup x == some .local) && (C.sc.names.lookup y == some .local) && notStar a && notStar b) = true then
                sP2 i j (aCons (dE n C (decide (x ∈ C.mu)) a) (aCons (dE n C (decide (y ∈ C.mu)) b) aNil)) else sBot
            | _, _ => sBot)
          | [.Name x px, .Name y py, .Name z pz], [a, b, d] => (match ixOf C.N x, ixOf C.N y, ixOf C.N z with
            | some i, some j, some l => if (decide (swapS C.sc [.Name x px, .Name y py, .Name z pz] [a, b, d] = some (some [x, y, z])) && decide (i ≠ j) && decide (i ≠ l) && decide (j ≠ l) && (C.sc.names.lookup x == some .local) && (C.sc.names.lookup y == some .local) && (C.sc.names.lookup z == some .local) && notStar a && notStar b && notStar d) = true then
                sP3 i j l (aCons (dE n C (decide (x ∈ C.mu)) a) (aCons (dE n C (decide (y ∈ C.mu)) b) (aCons (dE n C (decide (z ∈ C.mu)) d) aNil))) else sBot
            | _, _, _ => sBot)
          | _, _ => sBot)
        | none => sBot)
      | v => sAs (dE n C false v) (dG n C (List.range C.N.length) (.Tuple ts k p)))
    | .Subscript o i p => sAs (dE n C false v) (dG n C (List.range C.N.length) (.Subscript o i p))
    | _ => sBot
mutual
noncomputable def dS : Nat → Ct → Stmt → SF
  | 0, _, _ => sBot
  | n + 1, C, st => match st with
    | .Return o _ => (match o with
      | some e => sRt (dE n C C.keep e)
      | none => sRtN)
    | .Pass _ => sNx
    | .Break _ => sBk
    | .Continue _ => sCt
    | .Expr e _ => if isDoc e = true then sNx else if isComp e = true then sBot else sEx (dE n C false e)
    | .If t a b _ => sIf (dT n C t) (dSs n C a) (dSs n C b)
    | .For tg iter body els _ => (match els with
      | [] => if notSet iter = true then sFor (dW n C tg iter) (dG n C (List.range C.N.length) tg) (dSs n C body) else sBot
      | _ => sBot)
    | .While t body els _ => (match els with
      | [] => sWhile (dT n C t) (dSs n C body)
      | _ => sBot)
    | .Assign tgs v _ => (match tgs with
      | [tg] => dAs n C tg v
      | _ => sBot)
    | _ => sBot
noncomputable def dSs : Nat → Ct → List Stmt → SF
  | 0, _, _ => sBot
  | n + 1, C, sts => match sts with
    | [] => sNx
    | s :: r => sSeq (dS n C s) (dSs n C r)
end
structure WFS (X : Cx) (C : Ct) (c : CF) : Prop extends WFX X C c where
  sc : X.env.scope = C.sc
  bk : C.sc.kind = .function
  own : PassesOwn (model X.prog X.w) X.A X.env X.xe
  takes : Takes X (fun cls d _ H => c.E cls d H)
theorem WFS.block {X : Cx} {C : Ct} {c : CF} (W : WFS X C c) : X.env.blockKind = .function := by
  unfold Env.blockKind
  rw [W.sc, W.bk]
  rfl
structure StOk (n : Nat) : Prop where
  s : ∀ {X : Cx} {C : Ct} {c : CF}, WFS X C c → ∀ st, PS X st (tS c (dS n C st))
  ss : ∀ {X : Cx} {C : Ct} {c : CF}, WFS X C c → ∀ st, PSs X st (tS c (dSs n C st))
section
variable {X : Cx} {C : Ct} {c : CF} {n : Nat}
theorem name_loc (W : WFS X C c) {x : Str} (h : C.sc.names.lookup x = some .local ∨ C.sc.names.lookup x = some .cell) : Loc X.env.scope x := by
  rw [W.sc]
  exact h
theorem as_name (W : WFS X C c) {x : Str} {i : Nat} {p pos : Pos} {v : Expr} {cl : Bool} (h : C.sc.names.lookup x = some .local ∨ C.sc.names.lookup x = some .cell) (hi : ixOf C.N x = some i) (hv : isComp v = false ∨ ∃ elt gs scope p2, v = .ListComp elt gs scope p2) :
    PS X (.Assign [.Name x p] v pos) (tS c (sAs (dE n C cl v) (gNm i))) := by
  have hN : X.N[i]? = some x := by rw [W.N]; exact ixOf_get hi
  rcases hv with hv | ⟨elt, gs, scope, p2, rfl⟩
  · exact ss_set W.nd hN (name_loc W h) ((den_ok n).e W.toWFX cl v) (sw_none hv) (W.fnl x h)
  · -- a comprehension: the stores may be exchanged
    have hsw : ∃ b : Bool, swapsWith (.ListComp elt gs scope p2) (some (.Name x p)) pos.line X.env = pure b ∧ (b = true → X.env.scope.names.lookup x = some .local) := by
      refine ⟨_, rfl, fun hb => ?_⟩
      simp only [Bool.and_eq_true] at hb
      have := hb.1.1.2
      exact eq_of_beq this
    obtain ⟨b, hb, hb2⟩ := hsw
    cases b with
    | false => exact ss_set W.nd hN (name_loc W h) ((den_ok n).e W.toWFX cl _) hb (W.fnl x h)
    | true =>
      have hl := hb2 rfl
      cases n with
      | zero =>
        have e0 : sAs (dE 0 C cl (.ListComp elt gs scope p2)) (gNm i) = sBot := rfl
        rw [e0]
        exact ss_bot
      | succ n =>
        have D := den_ok n
        unfold dE
        dsimp only
        split
        · split
          · rename_i hs
            rw [Bool.and_eq_true] at hs
            refine PS_imp (ss_comp (cell := cl) W.calm W.nd hN hl hb (D.w W.toWFX _ _) (blkOk_fit (by rw [W.N]; exact blkOk_by hs.2) W.fits) (fun rs s H Cc clo fp => ?_) (fun rs s H Cc clo fp => ?_) (fun rs s H Cc clo fp => ?_) fun x => ?_) fun D σ H h => setLc_pre h
            · exact D.g (blk_ok W.toWFX rs s H Cc clo fp) (kpW_ok _) _ (fun i hi σ v => kpW_set hi σ v) _
            · exact D.ts (blk_ok W.toWFX rs s H Cc clo fp) _
            · exact D.e (blk_ok W.toWFX rs s H Cc clo fp) _ _
            · rename_i tg iter ifs
              cases iter <;> first | rfl | exact absurd hs.1 (by intro z; cases z)
          · have e0 : sAs eBot (gNm i) = sBot := rfl
            rw [e0]
            exact ss_bot
        · have e0 : sAs eBot (gNm i) = sBot := rfl
          rw [e0]
          exact ss_bot
theorem kpT_all (ow : List Nat) : ∀ i ∈ ow, ∀ σ v, kpT σ (σ.set i v) := fun _ _ _ _ => trivial
theorem as_ok (W : WFS X C c) (tg v : Expr) (pos : Pos) : PS X (.Assign [tg] v pos) (tS c (dAs n C tg v)) := by
  have D := den_ok n
  unfold dAs
  cases tg
  case Name x p =>
    dsimp only
    have key : ∀ i, (C.sc.names.lookup x = some .local ∨ C.sc.names.lookup x = some .cell) → ixOf C.N x = some i → PS X (.Assign [.Name x p] v pos) (tS c (match v with
          | .SetComp _ _ _ _ => sBot
          | .DictComp _ _ _ _ _ => sBot
          | v => sAs (dE n C (decide (x ∈ C.mu)) v) (gNm i))) := fun i h hi => by
      cases v
      case SetComp => exact ss_bot
      case DictComp => exact ss_bot
      case ListComp elt gs scope p2 => exact as_name W h hi (.inr ⟨_, _, _, _, rfl⟩)
      all_goals exact as_name W h hi (.inl rfl)
    split
    · rename_i hk
      split
      · rename_i i hi
        exact key i (.inl hk) hi
      · exact ss_bot
    · rename_i hk
      split
      · rename_i i hi
        exact key i (.inr hk) hi
      · exact ss_bot
    · exact ss_bot
  case Tuple ts k p =>
    dsimp only
    have gen : ∀ e : Expr, swappedStores [.Tuple ts k p] e X.env = pure none → PS X (.Assign [.Tuple ts k p] e pos) (tS c (sAs (dE n C false e) (dG n C (List.range C.N.length) (.Tuple ts k p)))) := fun e hw =>
      ss_asg (D.e W.toWFX _ _) (D.g W.toWFX kpT_ok _ (kpT_all _) _) sw_tup hw rfl
    cases v
    case Tuple vs k2 p2 =>
      dsimp only
      split
      · rename_i hsw
        exact gen _ (swapS_ok W.block (by rw [W.sc]; exact hsw))
      · split
        · split
          · split
            · rename_i x px y py a b _ _ _ i j hi hj hs
              simp only [Bool.and_eq_true, decide_eq_true_eq] at hs
              obtain ⟨⟨⟨⟨⟨h1, h2⟩, h3⟩, h4⟩, h5⟩, h6⟩ := hs
              refine PS_imp (ps_par W.calm W.nd (by rw [W.N]; exact ixOf_get hi) (by rw [W.N]; exact ixOf_get hj) h2 (by rw [W.sc]; exact eq_of_beq h3) (by rw [W.sc]; exact eq_of_beq h4)
                (sa_cons (D.e W.toWFX _ a) (sa_cons (D.e W.toWFX _ b) sa_nil (notStar_each h6)) (notStar_each h5)) (swapS_ok W.block (by rw [W.sc]; exact h1)) sw_tup) fun D σ H h => p2_pre h
            · exact ss_bot
          · exact ss_bot
        · split
          · split
            · rename_i x px y py z pz a b d _ _ _ _ i j l hi hj hl hs
              simp only [Bool.and_eq_true, decide_eq_true_eq] at hs
              obtain ⟨⟨⟨⟨⟨⟨⟨⟨⟨h1, h2⟩, h2b⟩, h2c⟩, h3⟩, h4⟩, h4b⟩, h5⟩, h6⟩, h7⟩ := hs
              refine PS_imp (ps_par3 W.calm W.nd (by rw [W.N]; exact ixOf_get hi) (by rw [W.N]; exact ixOf_get hj) (by rw [W.N]; exact ixOf_get hl) h2 h2b h2c (by rw [W.sc]; exact eq_of_beq h3) (by rw [W.sc]; exact eq_of_beq h4) (by rw [W.sc]; exact eq_of_beq h4b)
                (sa_cons (D.e W.toWFX _ a) (sa_cons (D.e W.toWFX _ b) (sa_cons (D.e W.toWFX _ d) sa_nil (notStar_each h7)) (notStar_each h6)) (notStar_each h5)) (swapS_ok W.block (by rw [W.sc]; exact h1)) sw_tup) fun D σ H h => p3_pre h
            · exact ss_bot
          · exact ss_bot
        · exact ss_bot
      · exact ss_bot
    all_goals exact gen _ (ss_tupv rfl)
  case Subscript o i p => exact ss_asg (D.e W.toWFX _ _) (D.g W.toWFX kpT_ok _ (kpT_all _) _) sw_sub ss_subv rfl
  all_goals exact ss_bot
theorem st_step (I : StOk n) : StOk (n + 1) where
  s := fun {X C c} W st => by
    have D := den_ok n
    unfold dS
    cases st
    case Return o p =>
      cases o with
      | none => exact ss_retN
      | some e => exact ss_ret (D.e W.toWFX _ _)
    case Pass p => exact ss_pass
    case Break p => exact ss_break
    case Continue p => exact ss_cont
    case Expr e p =>
      dsimp only
      split
      · rename_i h
        cases e
        case Constant k j q =>
          cases k <;> first | exact ss_doc | cases h
        all_goals cases h
      · split
        · exact ss_bot
        · rename_i h
          exact ss_expr (D.e W.toWFX _ _) (sw_none (by simpa using h))
    case If t a b p => exact ss_if (D.t W.toWFX _) (I.ss W _) (I.ss W _)
    case For tg iter body els p =>
      dsimp only
      split
      · split
        · rename_i hs
          refine ss_for W.own W.calm (D.w W.toWFX _ _) (D.g W.toWFX kpT_ok _ (kpT_all _) _) (I.ss W _) fun x => ?_
          cases iter <;> first | rfl | cases hs
        · exact ss_bot
      · exact ss_bot
    case While t body els p =>
      dsimp only
      split
      · exact ss_while W.own (D.t W.toWFX _) (I.ss W _)
      · exact ss_bot
    case Assign tgs v p =>
      dsimp only
      split
      · exact as_ok W _ _ _
      · exact ss_bot
    all_goals exact ss_bot
  ss := fun {X C c} W st => by
    unfold dSs
    cases st with
    | nil => exact sss_nil
    | cons s r => exact sss_cons (I.s W _) (I.ss W _)
end
theorem st_ok : ∀ n, StOk n
  | 0 => ⟨fun _ _ => ss_bot, fun _ _ => sss_bot⟩
  | n + 1 => st_step (st_ok n)
end L3
set_option Elab.async false
set_option linter.all false
set_option maxRecDepth 100000
set_option maxHeartbeats 8000000
namespace L3
open PySem PySem.Spec PyProof.Rows L2

/-! ### the end of a def: its own cells go -/
mutual
def noRef (n : Nat) : D → Bool
  | .ref k => decide (k < n)
  | .tup ds => noRefs n ds
  | .lst ds => noRefs n ds
  | .dic _ ds => noRefs n ds
  | .exn _ ds => noRefs n ds
  | _ => true
def noRefs (n : Nat) : List D → Bool
  | [] => true
  | d :: ds => noRef n d && noRefs n ds
end
def cellNo (n : Nat) : Cell → Bool
  | .lst ds => noRefs n ds
  | .lck ds => noRefs n ds
  | .dead => true
def frzD (n : Nat) (g : G) : D → Option D
  | .ref k => if k < n then some (.ref k) else match g[k]? with
    | some (.lst ds) => some (.lst ds)
    | _ => none
  | d => some d
def fin (m : M D) : M D := fun g => match m g with
  | .ok x g' => if g'.length = g.length then .ok x g' else match frzD g.length g' x with
    | some x' => if (noRef g.length x' && (List.take g.length g').all (cellNo g.length)) = true then .ok x' (g'.take g.length) else .bot
    | none => .bot
  | .err x g' => if g'.length = g.length then .err x g' else if (noRefs g.length x.args && (List.take g.length g').all (cellNo g.length)) = true then .err x (g'.take g.length) else .bot
  | .bot => .bot
section
mutual
theorem Rep.pop {F : FX} {H : Hp} {g : G} {m : List Addr} {n : Nat} : ∀ {d : D} {v : V}, noRef n d = true → Rep (F.rc H g m) d v → Rep (F.rc H (g.take n) (m.take n)) d v
  | .non, v, _, r => by simp only [Rep] at r ⊢; exact r
  | .bl b, v, _, r => by simp only [Rep] at r ⊢; exact r
  | .int i, v, _, r => by simp only [Rep] at r ⊢; exact r
  | .str x, v, _, r => by simp only [Rep] at r ⊢; exact r
  | .tup ds, v, h, r => by
    simp only [noRef] at h
    simp only [Rep] at r ⊢
    obtain ⟨a, vs, rfl, h1, h2⟩ := r
    exact ⟨a, vs, rfl, h1, RepL.pop h h2⟩
  | .lst ds, v, h, r => by
    simp only [noRef] at h
    simp only [Rep] at r ⊢
    obtain ⟨a, vs, rfl, h1, h2, h3⟩ := r
    refine ⟨a, vs, rfl, h1, fun z => h2 ?_, RepL.pop h h3⟩
    rcases z with ⟨k, es, q1, q2⟩ | z
    · refine .inl ⟨k, es, ?_, ?_⟩
      · rw [List.getElem?_take] at q1
        split at q1
        · exact q1
        · cases q1
      · rw [List.getElem?_take] at q2
        split at q2
        · exact q2
        · cases q2
    · exact .inr z
  | .scr ns, v, _, r => by simp only [Rep] at r ⊢; exact r
  | .dic ks ds, v, h, r => by
    simp only [noRef] at h
    simp only [Rep] at r ⊢
    obtain ⟨a, vs, rfl, h1, h2, h3⟩ := r
    exact ⟨a, vs, rfl, h1, h2, RepL.pop h h3⟩
  | .fn i, v, _, r => by simp only [Rep] at r ⊢; exact r
  | .exn c ds, v, _, r => by simp only [Rep] at r
  | .ref k, v, h, r => by
    simp only [noRef, decide_eq_true_eq] at h
    simp only [Rep] at r ⊢
    obtain ⟨a, rfl, h1⟩ := r
    exact ⟨a, rfl, by rw [List.getElem?_take, if_pos h]; exact h1⟩
theorem RepL.pop {F : FX} {H : Hp} {g : G} {m : List Addr} {n : Nat} : ∀ {ds : List D} {vs : List V}, noRefs n ds = true → RepL (F.rc H g m) ds vs → RepL (F.rc H (g.take n) (m.take n)) ds vs
  | [], vs, _, r => by rw [RepL.nil] at r ⊢; exact r
  | d :: ds, vs, h, r => by
    simp only [noRefs, Bool.and_eq_true] at h
    rw [RepL.cons] at r ⊢
    obtain ⟨v, vs', rfl, h1, h2⟩ := r
    exact ⟨v, vs', rfl, Rep.pop h.1 h1, RepL.pop h.2 h2⟩
end
theorem SR.pop {F : FX} {H : Hp} {g : G} {m : List Addr} {n : Nat} (s : SR F H g m) (h : (List.take n g).all (cellNo n) = true) : SR F H (g.take n) (m.take n) := by
  have at_ : ∀ {α : Type} {l : List α} {i : Nat} {x : α}, (l.take n)[i]? = some x → l[i]? = some x := fun {α l i x} q => by
    rw [List.getElem?_take] at q
    split at q
    · exact q
    · cases q
  have lt_ : ∀ {α : Type} {l : List α} {i : Nat} {x : α}, (l.take n)[i]? = some x → i < n := fun {α l i x} q => by
    rw [List.getElem?_take] at q
    split at q
    · assumption
    · cases q
  have cl : ∀ {i : Nat} {x : Cell}, (g.take n)[i]? = some x → cellNo n x = true := fun {i x} q => List.all_eq_true.mp h x (List.mem_of_getElem? q)
  refine ⟨by rw [List.length_take, List.length_take, s.len], fun i j a h1 h2 => s.inj i j a (at_ h1) (at_ h2), fun k ds e => ?_, fun k ds e => ?_, fun k a e => s.has k a (at_ e), fun a z => ?_⟩
  · obtain ⟨a, vs, h1, h2, h3⟩ := s.lst k ds (at_ e)
    exact ⟨a, vs, by rw [List.getElem?_take, if_pos (lt_ e)]; exact h1, h2, RepL.pop (cl e) h3⟩
  · obtain ⟨a, vs, h1, h2, h3⟩ := s.lck k ds (at_ e)
    exact ⟨a, vs, by rw [List.getElem?_take, if_pos (lt_ e)]; exact h1, h2, RepL.pop (cl e) h3⟩
  · obtain ⟨h1, h2⟩ := s.rsv a z
    exact ⟨h1, fun i q => h2 i (at_ q)⟩
theorem Ext.pop {H H' : Hp} {g g' : G} {m m' : List Addr} (e : Ext H g m H' g' m') (hl : m.length = g.length) : Ext H g m H' (g'.take g.length) (m'.take g.length) := by
  obtain ⟨t, et⟩ := e.pre
  have em : m'.take g.length = m := by rw [et, ← hl, List.take_left']; rfl
  refine ⟨⟨[], by rw [em, List.append_nil]⟩, fun a o q n => ?_, e.still, fun i a h1 h2 => by rw [em] at h1; rw [h1] at h2; cases h2⟩
  obtain ⟨h1, h2⟩ := e.keep a o q n
  refine ⟨h1, fun z => h2 ?_⟩
  obtain ⟨k, ds, q1, q2⟩ := z
  refine ⟨k, ds, ?_, ?_⟩
  · rw [List.getElem?_take] at q1
    split at q1
    · exact q1
    · cases q1
  · rw [List.getElem?_take] at q2
    split at q2
    · exact q2
    · cases q2
theorem frz_ok {F : FX} {H : Hp} {g : G} {m : List Addr} {n : Nat} {x x' : D} {v : V} (s : SR F H g m) (r : Rep (F.rc H g m) x v) (h : frzD n g x = some x') (hn : noRef n x' = true) : Rep (F.rc H (g.take n) (m.take n)) x' v := by
  cases x with
  | ref k =>
    unfold frzD at h
    simp only [] at h
    split at h
    · cases h
      exact Rep.pop hn r
    · rename_i hk
      cases q : g[k]? with
      | none => rw [q] at h; cases h
      | some cl =>
        rw [q] at h
        cases cl with
        | lst ds =>
          cases h
          obtain ⟨a, vs, rfl, h1, h2, h3⟩ := cell_of s r q
          simp only [noRef] at hn
          simp only [Rep]
          refine ⟨a, vs, rfl, h2, fun z => ?_, RepL.pop hn h3⟩
          rcases z with ⟨j, es, q1, q2⟩ | z
          · rw [List.getElem?_take] at q2
            split at q2
            · rename_i hj
              have := s.inj j k a q2 h1
              omega
            · cases q2
          · exact (s.rsv a z).2 k h1
        | lck ds => cases h
        | dead => cases h
  | _ => cases h; exact Rep.pop hn r
theorem RepX.pop {Y : XF} {F : FX} {H : Hp} {g : G} {m : List Addr} {n : Nat} {x : XD} {cls : Value} {dd : Option Addr} (h : noRefs n x.args = true) (r : RepX Y (F.rc H g m) x cls dd) : RepX Y (F.rc H (g.take n) (m.take n)) x cls dd := by
  obtain ⟨a, h1, h2, h3⟩ := r
  refine ⟨a, h1, h2, ?_⟩
  rcases h3 with h3 | ⟨f, d, v, dx, e1, e2, e3, e4, e5⟩
  · exact .inl h3
  · refine .inr ⟨f, d, v, dx, e1, e2, e3, e4, Rep.pop ?_ e5⟩
    rw [e1] at h
    simp only [noRefs, Bool.and_true] at h
    exact h
theorem fin_pre {c : CF} {H : Hp} {g : G} {m : List Addr} {b : M D} {Q : VK} (s : SR c.F H g m) (h : WP Rep c H g m (fin b g) Q) : WP Rep c H g m (b g) Q := by
  unfold fin at h
  cases q : b g with
  | bot => rw [q] at h; exact h.elim
  | ok x g' =>
    rw [q] at h
    simp only [] at h
    split at h
    · exact h
    · cases qf : frzD g.length g' x with
      | none => rw [qf] at h; exact h.elim
      | some x' =>
        rw [qf] at h
        simp only [] at h
        split at h
        · rename_i hc
          rw [Bool.and_eq_true] at hc
          intro v H' m' s' e' r'
          have sp := s'.pop hc.2
          have hl' : m'.length = g'.length := s'.len
          exact h v H' (m'.take g.length) sp (e'.pop s.len) (frz_ok s' r' qf hc.1)
        · exact h.elim
  | err x g' =>
    rw [q] at h
    simp only [] at h
    split at h
    · exact h
    · split at h
      · rename_i hc
        rw [Bool.and_eq_true] at hc
        intro cls dd H' m' s' e' r'
        exact h cls dd H' (m'.take g.length) (s'.pop hc.2) (e'.pop s.len) (r'.pop hc.1)
      · exact h.elim
end

/-! ### defs -/
structure Fd where
  ar : Nat
  nl : Nat
  fr : Bool
  bd : (Nat → List D → M D) → SF
def runB (f : SF) : Env3 → M D := fun env => bnd (f env) fun r => match r with
  | .rt d => ret d
  | .nx _ => ret .non
  | _ => bot
def callT (T : Nat → Option Fd) : Nat → Nat → List D → M D
  | 0, _, _ => bot
  | k + 1, i, ds => match T i with
    | some f => if ds.length = f.ar then (if f.fr = true then fin (runB (f.bd (callT T k)) (ds.map some ++ List.replicate (f.nl - f.ar) none)) else runB (f.bd (callT T k)) (ds.map some ++ List.replicate (f.nl - f.ar) none)) else bot
    | none => bot
theorem callT_arity {T : Nat → Option Fd} {k i : Nat} {f : Fd} (h : T i = some f) : Arity (callT T k) i f.ar := fun ds hl => by
  cases k with
  | zero => rfl
  | succ k =>
    unfold callT
    rw [h]
    exact if_neg hl
/-- what is written of a def -/
structure Dd where
  name : Str
  ps : List Str
  N : List Str
  mu : List Str
  keep : Bool
  fr : Bool
  body : List Stmt
  scope : Scope
def Dd.ct (d : Dd) (gl : List (Str × Gk)) (kw : List ((Nat × List Str) × List Nat)) (call : Nat → List D → M D) : Ct := ⟨d.scope, d.N, gl, kw, d.mu, d.keep, call⟩
noncomputable def Dd.fd (d : Dd) (gl : List (Str × Gk)) (kw : List ((Nat × List Str) × List Nat)) : Fd := ⟨d.ps.length, d.N.length, d.fr, fun call => dSs 60 (d.ct gl kw call) d.body⟩
def scB (N ps : List Str) (sc : Scope) : Bool :=
  decide (sc.kind = .function) && !sc.isCoroutine && !sc.isGenerator && decide N.Nodup && decide (N.take ps.length = ps) && (ps.all fun x => sc.names.lookup x == some .local || sc.names.lookup x == some .cell) && sc.names.all fun y => !(y.2 == .free)
theorem scB_ok {N ps : List Str} {sc : Scope} (h : scB N ps sc = true) : FnScope N ps sc := by
  unfold scB at h
  simp only [Bool.and_eq_true, decide_eq_true_eq, Bool.not_eq_true', List.all_eq_true] at h
  obtain ⟨⟨⟨⟨⟨⟨h1, h2⟩, h3⟩, h4⟩, h5⟩, h6⟩, h7⟩ := h
  refine ⟨h1, h2, h3, h4, h5, fun x hx => ?_, fun y hy e => ?_⟩
  · have := h6 x hx
    rw [Bool.or_eq_true] at this
    exact this.imp eq_of_beq eq_of_beq
  · have := h7 y hy
    rw [e] at this
    exact absurd this (by decide)
theorem RepL_env {F : FX} {H : Hp} {g : G} {m : List Addr} {ds : List D} {vs : List V} {N : List Str} (r : RepL (F.rc H g m) ds vs) (n : Nat) (hn : n = N.length - ds.length) : RE F H g m (L2.start N vs) (ds.map some ++ List.replicate n none) := by
  have hl := r.length
  refine ⟨?_, fun i d e => ?_⟩
  · unfold L2.start
    rw [List.length_append, List.length_append, List.length_map, List.length_map, List.length_replicate, List.length_replicate, hl, hn]
  · by_cases hi : i < ds.length
    · rw [List.getElem?_append_left (by rw [List.length_map]; exact hi), List.getElem?_map] at e
      cases q : ds[i]? with
      | none => rw [q] at e; cases e
      | some d' =>
        rw [q] at e
        cases e
        obtain ⟨v, h1, h2⟩ := r.get q
        refine ⟨v, ?_, h2⟩
        unfold L2.start
        rw [List.getElem?_append_left (by rw [List.length_map, hl]; exact hi), List.getElem?_map, h1]
        rfl
    · rw [List.getElem?_append_right (by rw [List.length_map]; omega)] at e
      rw [List.getElem?_replicate] at e
      split at e <;> cases e
/-- what is known of the defs of a text -/
structure Known (P : Program) (w : World) (K : PySem.W.Frag) (mg : Str → Option Value) (fa : Nat → Option Addr) (T : Nat → Option Dd) (gl : List (Str × Gk)) (kw : List ((Nat × List Str) × List Nat)) : Prop where
  def_ : ∀ i a, fa i = some a → ∃ d params kws fd, T i = some d ∧ FunD K d.name d.name params d.body d.scope [] kws a fd ∧ scB d.N d.ps d.scope = true ∧ Binds K fd d.ps [] ∧ ∀ ks perm, kw.lookup (i, ks) = some perm → KBinds K fd d.ps ks (pm perm) (pm perm)
  mg : ∀ (Y : XF) (E : XK) x k, gl.lookup x = some k → GkOk mg ⟨⟨K, fa, fun _ => False⟩, Y, E⟩ k x
noncomputable def tab (T : Nat → Option Dd) (gl : List (Str × Gk)) (kw : List ((Nat × List Str) × List Nat)) : Nat → Option Fd := fun i => (T i).map fun d => d.fd gl kw
section
variable {P : Program} {w : World} {K : PySem.W.Frag} {mg : Str → Option Value} {fa : Nat → Option Addr} {T : Nat → Option Dd} {gl : List (Str × Gk)} {kw : List ((Nat × List Str) × List Nat)}
theorem callT_wp {c : CF} {H : Hp} {g : G} {m : List Addr} {k i : Nat} {ds : List D} {d : Dd} {Q : VK} (hT : T i = some d) (s : SR c.F H g m) (h : WP Rep c H g m (callT (tab T gl kw) (k + 1) i ds g) Q) :
    ds.length = d.ps.length ∧ WP Rep c H g m (runB (dSs 60 (d.ct gl kw (callT (tab T gl kw) k)) d.body) (ds.map some ++ List.replicate (d.N.length - d.ps.length) none) g) Q := by
  have e : tab T gl kw i = some (d.fd gl kw) := by
    unfold tab
    rw [hT]
    rfl
  unfold callT at h
  rw [e] at h
  simp only [] at h
  split at h
  · rename_i hl
    refine ⟨hl, ?_⟩
    split at h
    · exact fin_pre s h
    · exact h
  · exact h.elim
theorem fns_ok (base : Heap) (Y : XF) (J : Known P w K mg fa T gl kw) : ∀ (k : Nat) (i : Nat) (a : Addr), fa i = some a → ∃ d fd, T i = some d ∧ FnOk P w K mg base (L2.CX P w) k a fd d.ps (spD ⟨K, fa, fun _ => False⟩ Y (callT (tab T gl kw) k) i d.ps.length) ∧
    PySem.W.keepIn K (.ref a) = true ∧ Binds K fd d.ps [] ∧ (∀ ks perm, kw.lookup (i, ks) = some perm → KBinds K fd d.ps ks (pm perm) (pm perm)) ∧ ∃ params kws, FunD K d.name d.name params d.body d.scope [] kws a fd
  | 0, i, a, h => by
    obtain ⟨d, params, kws, fd, hT, F, S, hb, hkb⟩ := J.def_ i a h
    refine ⟨d, fd, hT, ⟨fun vs H Q E q => q.1, fun A outer s H args us vs Q E hr he hb hv hs => ?_⟩, F.kp, hb, hkb, params, kws, F⟩
    obtain ⟨_, rs, g, m, ds, _, _, z⟩ := hs
    exact z.elim
  | k + 1, i, a, h => by
    obtain ⟨d, params, kws, fd, hT, F, S, hb, hkb⟩ := J.def_ i a h
    have FS := scB_ok S
    refine ⟨d, fd, hT, ?_, F.kp, hb, hkb, params, kws, F⟩
    refine F.ok FS (fun vs H Q E q => q.1) fun cdv A outer s H vs Q E hr hsp => ?_
    obtain ⟨hlen, rs, g, m, ds, sr, rl, hw⟩ := hsp
    obtain ⟨hl, hw2⟩ := callT_wp hT sr hw
    have W : WFS (cxOf (L2.CX P w) P w K mg base d.N d.name d.scope a cdv A outer s H E) (d.ct gl kw (callT (tab T gl kw) k)) ⟨⟨K, fa, rs⟩, Y, E⟩ := {
      K := rfl
      calm := rfl
      nd := FS.nd
      N := rfl
      fits := fun x k h => .inl h
      fnl := fun x h => .inl rfl
      mg := fun x k h => by
        have := J.mg Y E x k h
        cases k with
        | cst d => exact this
        | _ => exact this
      fns := fun j b hj => by
        obtain ⟨d2, fd2, hT2, F2, kp2, b2, kb2, _⟩ := fns_ok base Y J k j b hj
        exact ⟨k, fd2, d2.ps, F2, hr, kp2, b2, callT_arity (T := tab T gl kw) (f := d2.fd gl kw) (by unfold tab; rw [hT2]; rfl), kb2⟩
      pass := passes_call (W := fun cls d _ H => E cls d H) (takes_of (E := E) rfl rfl rfl rfl) fun _ _ _ _ h => h
      room := ⟨k, hr⟩
      sc := rfl
      bk := FS.kind
      own := passes_of rfl
      takes := takes_of rfl rfl rfl rfl }
    refine ⟨_, (st_ok 60).ss W d.body, _, g, m, RepL_env rl _ (by rw [hl]), sr, ?_⟩
    have h3 := WP.bnd (rep1 := RepF) hw2
    refine h3.imp fun fl H1 h4 => ?_
    obtain ⟨g1, m1, x, s1, e1, r1, w1⟩ := h4
    cases x with
    | nx env =>
      obtain ⟨σ1, rfl, _⟩ := r1.nx
      exact w1 .non H1 m1 s1 (Ext.refl _ _ _) (show Rep _ .non .non from rep_non)
    | rt dd =>
      obtain ⟨v, rfl, r2⟩ := r1.rt
      exact w1 v H1 m1 s1 (Ext.refl _ _ _) r2
    | bk env => exact w1.elim
    | ct env => exact w1.elim
end
end L3
set_option Elab.async false
set_option linter.all false
set_option maxRecDepth 100000
set_option maxHeartbeats 8000000
namespace L3
open PySem PySem.Spec PyProof.Rows L2

theorem Vals.filt {vs : List V} {us : List Value} (r : Vals vs us) : ∀ perm : List Nat, Vals (perm.filterMap fun j => vs[j]?) (perm.filterMap fun j => us[j]?)
  | [] => .nil
  | j :: perm => by
    have ih := Vals.filt r perm
    cases q : vs[j]? with
    | none =>
      have q2 : us[j]? = none := r.none_of q
      rw [List.filterMap_cons_none q, List.filterMap_cons_none q2]
      exact ih
    | some d =>
      obtain ⟨v, q2, rv⟩ := r.get q
      rw [List.filterMap_cons_some q, List.filterMap_cons_some q2]
      exact .cons rv ih
theorem Vals.pm {vs zs : List V} {us ws : List Value} (perm : List Nat) (r : Vals vs us) (r2 : Vals zs ws) : Vals (pm perm vs zs) (pm perm us ws) := by
  unfold L3.pm
  rw [r.length, r2.length]
  split
  · exact Vals.filt r2 perm
  · exact .nil
/-- parameters without anything special -/
def plainP (p : Arguments) (ps : List Str) : Bool := p.posonlyargs.isEmpty && decide (p.args.map (·.arg) = ps) && p.vararg.isNone && p.kwonlyargs.isEmpty && p.kwarg.isNone && decide ps.Nodup
theorem lookup_zip : ∀ {ps : List Str} {us : List Value}, ps.Nodup → us.length = ps.length → ps.filterMap (fun n => ((ps.zip us).lookup n).map (n, ·)) = ps.zip us := by
  intro ps us nd hl
  have key : ∀ (qs : List Str) (ws : List Value) (l : List (Str × Value)), qs.Nodup → ws.length = qs.length → (∀ q ∈ qs, ∀ v, (q, v) ∉ l) → qs.filterMap (fun n => ((l ++ qs.zip ws).lookup n).map (n, ·)) = qs.zip ws := by
    intro qs
    induction qs with
    | nil => intro ws l _ _ _; rfl
    | cons q qs ih =>
      intro ws l nd hl hn
      cases ws with
      | nil => cases hl
      | cons w ws =>
        have hq : ∀ (l : List (Str × Value)) (r : List (Str × Value)), (∀ v, (q, v) ∉ l) → (l ++ (q, w) :: r).lookup q = some w := by
          intro l
          induction l with
          | nil => intro r _; simp
          | cons p l ihl =>
            intro r h
            obtain ⟨p1, p2⟩ := p
            have ne : (q == p1) = false := by
              cases z : q == p1 with
              | false => rfl
              | true =>
                have := eq_of_beq z
                subst this
                exact absurd (List.mem_cons_self ..) (h p2)
            rw [List.cons_append, List.lookup_cons, ne]
            exact ihl r fun v hv => h v (List.mem_cons_of_mem _ hv)
        rw [List.zip_cons_cons, List.filterMap_cons_some (b := (q, w))]
        · rw [show l ++ (q, w) :: qs.zip ws = (l ++ [(q, w)]) ++ qs.zip ws from by rw [List.append_assoc]; rfl]
          rw [ih ws (l ++ [(q, w)]) (List.nodup_cons.mp nd).2 (by simpa using hl)]
          intro p hp v hm
          rcases List.mem_append.mp hm with z | z
          · exact hn p (List.mem_cons_of_mem _ hp) v z
          · have z' : (p, v) = (q, w) := by simpa using z
            cases z'
            exact (List.nodup_cons.mp nd).1 hp
        · rw [hq l (qs.zip ws) (hn q (List.mem_cons_self ..))]
          rfl
  exact key ps us [] nd hl fun _ _ _ h => by cases h
theorem lookup_some : ∀ {ps : List Str} {us : List Value} {n : Str}, us.length = ps.length → n ∈ ps → ∃ v, (ps.zip us).lookup n = some v
  | [], _, _, _, h => by cases h
  | p :: ps, [], _, hl, _ => by cases hl
  | p :: ps, u :: us, n, hl, h => by
    rw [List.zip_cons_cons, List.lookup_cons]
    cases q : n == p with
    | true => exact ⟨u, rfl⟩
    | false =>
      refine lookup_some (by simpa using hl) ?_
      rcases List.mem_cons.mp h with z | z
      · rw [z] at q
        simp at q
      · exact z
theorem bind_plain {x qual : Str} {params : Arguments} {body : List Stmt} {scope : Scope} {ps : List Str} (h : plainP params ps = true) (kV doc pmv : Value) (an : Option Addr) (cdv ct : Value) (us : List Value) (hl : us.length = ps.length) :
    bindArgs (PySem.W.fnOf x qual params body scope .none kV doc pmv an cdv ct) ⟨us, []⟩ = pure (ps.zip us) := by
  unfold plainP at h
  simp only [Bool.and_eq_true, decide_eq_true_eq, List.isEmpty_iff, Option.isNone_iff_eq_none] at h
  obtain ⟨⟨⟨⟨⟨h1, h2⟩, h3⟩, h4⟩, h5⟩, h6⟩ := h
  obtain ⟨po, ar, va, ko, kd, ka, df⟩ := params
  simp only at h1 h2 h3 h4 h5
  subst h1 h3 h4 h5
  have e1 : seqItems? (PySem.W.fnOf x qual ⟨[], ar, none, [], kd, none, df⟩ body scope .none kV doc pmv an cdv ct).defaults = pure none := rfl
  have e2 : (ar.map (·.arg)).length = us.length := by rw [h2, hl]
  unfold bindArgs
  rw [e1]
  simp only [pure_bind]
  simp [PySem.W.fnOf]
  have e3 : ar.length = us.length := by rw [← e2, List.length_map]
  rw [h2]
  refine (if_neg (by omega)).trans ((if_neg ?_).trans ?_)
  · rw [List.filter_eq_nil_iff.mpr]
    · decide
    · intro n hn
      have hm := List.mem_of_mem_take hn
      have hm2 : n ∈ ps := by simpa using hm
      obtain ⟨v, hv⟩ := lookup_some hl hm2
      rw [hv]
      intro z
      cases z
  · refine congrArg pure (Eq.trans ?_ (lookup_zip h6 hl))
    subst h2
    rw [List.filterMap_map]
theorem binds_plain {K : PySem.W.Frag} {x qual : Str} {params : Arguments} {body : List Stmt} {scope : Scope} {kws : List (Str × V)} {f : Addr} {fd : FuncData} {ps : List Str} (F : FunD K x qual params body scope [] kws f fd) (h : plainP params ps = true) : Binds K fd ps [] :=
  F.bindsN fun kV doc pmv an cdv ct us hl => bind_plain h kV doc pmv an cdv ct us hl
/-- a call by keywords alone -/
theorem kbinds_plain {K : PySem.W.Frag} {x qual : Str} {params : Arguments} {body : List Stmt} {scope : Scope} {kws : List (Str × V)} {f : Addr} {fd : FuncData} {ps : List Str} (F : FunD K x qual params body scope [] kws f fd) (ks : List Str) (perm : List Nat) (hps : ps ≠ [])
    (h : ∀ (kV doc pmv : Value) (an : Option Addr) (cdv ct : Value) (ws : List Value), ws.length = perm.length → bindArgs (PySem.W.fnOf x qual params body scope .none kV doc pmv an cdv ct) ⟨[], ks.zip ws⟩ = pure (ps.zip (perm.filterMap fun j => ws[j]?))) : KBinds K fd ps ks (pm perm) (pm perm) := by
  obtain ⟨oc, od, dV, kV, doc, pmv, an, cdv, ct, osl, rfl, lk, hcd, hD, hK⟩ := F.ex
  refine ⟨fun s us ws _ hlen => ?_, fun {vs us zs ws} r r2 => Vals.pm perm r r2⟩
  unfold L3.pm at hlen ⊢
  split
  · rename_i hc
    obtain ⟨h1, h2⟩ := hc
    have e : us = [] := List.eq_nil_of_length_eq_zero h1
    subst e
    rcases hD with ⟨_, rfl⟩ | ⟨e, _⟩
    · exact .of_eq (h kV doc pmv an cdv ct ws h2)
    · exact absurd rfl e
  · rename_i hc
    rw [if_neg hc] at hlen
    exact absurd (List.eq_nil_of_length_eq_zero hlen.symm) hps
/-! ### from the head -/
/-- one def of a text: what the reading needs beside its syntax -/
structure Ds where
  name : Str
  ix : Nat
  ps : List Str
  N : List Str
  mu : List Str
  keep : Bool
  fr : Bool
def Ds.dd (top : Nat → Stmt) (d : Ds) : Dd := ⟨d.name, d.ps, d.N, d.mu, d.keep, d.fr, defBody (top d.ix), defScope (top d.ix)⟩
def Ds.he (top : Nat → Stmt) (d : Ds) : He.DefD := ⟨(d.name, none), d.name, d.name, defArgs (top d.ix), defBody (top d.ix), defScope (top d.ix), [], []⟩
def faK (K : PySem.W.Frag) (L : List Ds) : Nat → Option Addr := fun i => (L[i]?).map fun d => He.fAd K (d.name, none)
def tT' (top : Nat → Stmt) (L : List Ds) : Nat → Option Dd := fun i => (L[i]?).map (Ds.dd top)
theorem known_of {P : Program} {w : World} {K : PySem.W.Frag} {mg : Str → Option Value} {top : Nat → Stmt} {L : List Ds} {fx : List He.Fa} {gl : List (Str × Gk)} {kw : List ((Nat × List Str) × List Nat)} (c : He.SaysD fx (L.map (Ds.he top)) K)
    (hs : (L.all fun d => scB d.N d.ps (defScope (top d.ix)) && plainP (defArgs (top d.ix)) d.ps) = true)
    (hk : ∀ i ks perm, kw.lookup (i, ks) = some perm → ∀ d, L[i]? = some d → d.ps ≠ [] ∧ ∀ (kV doc pmv : Value) (an : Option Addr) (cdv ct : Value) (ws : List Value), ws.length = perm.length → bindArgs (PySem.W.fnOf d.name d.name (defArgs (top d.ix)) (defBody (top d.ix)) (defScope (top d.ix)) .none kV doc pmv an cdv ct) ⟨[], ks.zip ws⟩ = pure (d.ps.zip (perm.filterMap fun j => ws[j]?)))
    (hm : ∀ (Y : XF) (E : XK) x k, gl.lookup x = some k → GkOk mg ⟨⟨K, faK K L, fun _ => False⟩, Y, E⟩ k x) : Known P w K mg (faK K L) (tT' top L) gl kw where
  def_ := fun i a h => by
    unfold faK at h
    cases q : L[i]? with
    | none => rw [q] at h; cases h
    | some d =>
      rw [q] at h
      cases h
      have q2 : (L.map (Ds.he top))[i]? = some (d.he top) := by rw [List.getElem?_map, q]; rfl
      obtain ⟨fd, F⟩ := c.def_ i q2
      have h2 := List.all_eq_true.mp hs d (List.mem_of_getElem? q)
      rw [Bool.and_eq_true] at h2
      refine ⟨d.dd top, defArgs (top d.ix), [], fd, by unfold tT'; rw [q]; rfl, F, h2.1, binds_plain F h2.2, fun ks perm hp => ?_⟩
      obtain ⟨h3, h4⟩ := hk i ks perm hp d q
      exact kbinds_plain F ks perm h3 h4
  mg := hm
end L3
set_option Elab.async false
set_option linter.all false
set_option maxRecDepth 100000
set_option maxHeartbeats 8000000
namespace L3
open PySem PySem.Spec PyProof.Rows L2

/-! ### constants of the module -/
mutual
def valB (K : PySem.W.Frag) : D → Value → Bool
  | .non, u => (match u with
    | .none => true
    | _ => false)
  | .bl b, u => (match u with
    | .bool c => b == c
    | _ => false)
  | .int i, u => (match u with
    | .int j _ => decide (i = j)
    | _ => false)
  | .str x, u => (match u with
    | .str y _ => decide (x = y)
    | _ => false)
  | .tup ds, u => (match u with
    | .ref a => (match K.lookup a with
      | some ⟨.type c, _, .seq its _, _⟩ => decide (c = "tuple") && decide (its.size ≤ lim) && valsB K ds its.toList
      | _ => false)
    | _ => false)
  | _, _ => false
def valsB (K : PySem.W.Frag) : List D → List Value → Bool
  | [], us => us.isEmpty
  | d :: ds, us => (match us with
    | u :: us => valB K d u && valsB K ds us
    | [] => false)
end
mutual
theorem valB_ok {K : PySem.W.Frag} {fa : Nat → Option Addr} {l : Addr → Prop} {m : List Addr} : ∀ {d : D} {u : Value}, valB K d u = true → ∃ v, RelV v u ∧ ∀ H : Hp, Rep ⟨K, fa, l, m, H⟩ d v
  | .non, u, h => by
    simp only [valB] at h
    cases u with
    | none => exact ⟨.non, rfl, fun H => rep_non⟩
    | _ => cases h
  | .bl b, u, h => by
    simp only [valB] at h
    cases u with
    | bool c =>
      have e : b = c := eq_of_beq h
      subst e
      exact ⟨.bl b, rfl, fun H => rep_bl⟩
    | _ => cases h
  | .int i, u, h => by
    simp only [valB] at h
    cases u with
    | int j t =>
      have e : i = j := of_decide_eq_true h
      subst e
      exact ⟨.int i, ⟨t, rfl⟩, fun H => rep_int⟩
    | _ => cases h
  | .str x, u, h => by
    simp only [valB] at h
    cases u with
    | str y t =>
      have e : x = y := of_decide_eq_true h
      subst e
      exact ⟨.str x, ⟨t, rfl⟩, fun H => rep_str⟩
    | _ => cases h
  | .tup ds, u, h => by
    simp only [valB] at h
    cases u with
    | ref a =>
      simp only [] at h
      cases q : K.lookup a with
      | none => rw [q] at h; cases h
      | some o =>
        rw [q] at h
        obtain ⟨oc, od, dt, osl⟩ := o
        cases oc with
        | type c =>
          cases dt with
          | seq its n =>
            simp only [Bool.and_eq_true, decide_eq_true_eq] at h
            obtain ⟨⟨h1, h2⟩, h3⟩ := h
            obtain ⟨vs, r, hv⟩ := valsB_ok (fa := fa) (l := l) (m := m) h3
            refine ⟨.ref a, rfl, fun H => ?_⟩
            simp only [Rep]
            exact ⟨a, vs, rfl, .inr ⟨_, its, n, q, by rw [h1], rfl, le_lim h2, r⟩, hv H⟩
          | _ => cases h
        | _ => cases h
    | _ => cases h
  | .lst _, _, h => by simp only [valB] at h; cases h
  | .scr _, _, h => by simp only [valB] at h; cases h
  | .dic _ _, _, h => by simp only [valB] at h; cases h
  | .fn _, _, h => by simp only [valB] at h; cases h
  | .exn _ _, _, h => by simp only [valB] at h; cases h
  | .ref _, _, h => by simp only [valB] at h; cases h
theorem valsB_ok {K : PySem.W.Frag} {fa : Nat → Option Addr} {l : Addr → Prop} {m : List Addr} : ∀ {ds : List D} {us : List Value}, valsB K ds us = true → ∃ vs, Vals vs us ∧ ∀ H : Hp, RepL ⟨K, fa, l, m, H⟩ ds vs
  | [], us, h => by
    simp only [valsB, List.isEmpty_iff] at h
    subst h
    exact ⟨[], .nil, fun H => by rw [RepL.nil]⟩
  | d :: ds, us, h => by
    cases us with
    | nil => simp only [valsB] at h; cases h
    | cons u us =>
      simp only [valsB, Bool.and_eq_true] at h
      obtain ⟨v, r, hv⟩ := valB_ok (fa := fa) (l := l) (m := m) h.1
      obtain ⟨vs, r2, hv2⟩ := valsB_ok (fa := fa) (l := l) (m := m) h.2
      exact ⟨v :: vs, .cons r r2, fun H => by rw [RepL.cons]; exact ⟨v, vs, rfl, hv H, hv2 H⟩⟩
end
/-- a constant shows no cells: what it is needs no list of them -/
theorem valB_one {K : PySem.W.Frag} {fa : Nat → Option Addr} {d : D} {u : Value} (h : valB K d u = true) : ∃ v, RelV v u ∧ ∀ rs H g m, Rep (FX.rc ⟨K, fa, rs⟩ H g m) d v := by
  obtain ⟨v, r, _⟩ := valB_ok (fa := fa) (l := fun _ => False) (m := []) h
  refine ⟨v, r, fun rs H g m => ?_⟩
  obtain ⟨v2, r2, h2⟩ := valB_ok (fa := fa) (l := fun a => lv g m a ∨ rs a) (m := m) h
  rw [r.inj r2]
  exact h2 H
def gkB (L : List Ds) (K : PySem.W.Frag) (p : Str × Gk) : Bool := match p.2 with
  | .fn i => (match L[i]? with
    | some d => decide (PySem.W.nsIn K mainGlobals p.1 = some (some (.ref (He.fAd K (d.name, none)))))
    | none => false)
  | .cst d => (match PySem.W.nsIn K mainGlobals p.1 with
    | some (some u) => valB K d u
    | _ => false)
  | .bt => decide (PySem.W.nsIn K mainGlobals p.1 = some none)
  | .im id => decide (PySem.W.nsIn K mainGlobals p.1 = some (some (.builtin id)))
  | .ex _ => true
theorem lookup_mem {α : Type} : ∀ {l : List (Str × α)} {x : Str} {k : α}, l.lookup x = some k → (x, k) ∈ l
  | [], _, _, h => by cases h
  | (y, j) :: l, x, k, h => by
    rw [List.lookup_cons] at h
    cases q : x == y with
    | true =>
      rw [q] at h
      cases h
      rw [eq_of_beq q]
      exact List.mem_cons_self ..
    | false =>
      rw [q] at h
      exact List.mem_cons_of_mem _ (lookup_mem h)
theorem gkB_ok {L : List Ds} {K : PySem.W.Frag} {h : Heap} {mg : Str → Option Value} {gl : List (Str × Gk)} (X : K.In h) (G : h.Ns mainGlobals mg) (c : gl.all (gkB L K) = true) (Y : XF) (E : XK) (x : Str) (k : Gk) (hl : gl.lookup x = some k) : GkOk mg ⟨⟨K, faK K L, fun _ => False⟩, Y, E⟩ k x := by
  have h1 := List.all_eq_true.mp c _ (lookup_mem hl)
  unfold gkB at h1
  cases k with
  | fn i =>
    simp only [] at h1
    cases q : L[i]? with
    | none => rw [q] at h1; cases h1
    | some d =>
      rw [q] at h1
      refine ⟨_, PySem.W.mg_of X G (of_decide_eq_true h1), ?_⟩
      show faK K L i = _
      unfold faK
      rw [q]
      rfl
  | cst d =>
    simp only [] at h1
    cases q : PySem.W.nsIn K mainGlobals x with
    | none => rw [q] at h1; cases h1
    | some o =>
      cases o with
      | none => rw [q] at h1; cases h1
      | some u =>
        rw [q] at h1
        obtain ⟨v, r, hv⟩ := valB_one (fa := faK K L) h1
        exact ⟨u, v, PySem.W.mg_of X G q, r, hv⟩
  | bt => exact PySem.W.mg_none_of X G (of_decide_eq_true h1)
  | im id => exact PySem.W.mg_of X G (of_decide_eq_true h1)
  | ex i => trivial
/-! ### the hook -/
def obsE (fn : List He.DefD) (ex : PySem.W.Frag → Bool) (K : PySem.W.Frag) : He.AlD := ((fn.all fun d => d.ok K) && ex K, fn.map fun d => He.fnW K d.at_)
def SaysE (fn : List He.DefD) (ex : PySem.W.Frag → Bool) (K : PySem.W.Frag) : Prop := obsE fn ex K = He.valD fn
def obsEG (n : Nat) (fn : List He.DefD) (ex : PySem.W.Frag → Bool) (g : Addr → Option Obj) : He.AlD := obsE fn ex (He.frG g (He.asD g n))
def hookE (n : Nat) (fn : List He.DefD) (ex : PySem.W.Frag → Bool) : PySem.W.Hook where
  α := He.AlD
  obs := fun s => obsEG n fn ex s.heap.get?
  val := fun _ => He.valD fn
  says := fun _ h => ∃ K : PySem.W.Frag, K.In h ∧ SaysE fn ex K
  of := fun _ _ e => ⟨_, He.frG_in, e⟩
  keeps := fun _ _ _ ⟨K, hK, c⟩ k => ⟨K, PySem.W.Frag.In.keeps hK k, c⟩
theorem obsEG_eq {n : Nat} {fn : List He.DefD} {ex : PySem.W.Frag → Bool} {g : Addr → Option Obj} {s : Shared} (h : ∀ a, g a = s.heap.get? a) : obsEG n fn ex g = (hookE n fn ex).obs s := by
  have e : g = s.heap.get? := funext h
  rw [e] <;> rfl
theorem SaysE.both {fn : List He.DefD} {ex : PySem.W.Frag → Bool} {K : PySem.W.Frag} (c : SaysE fn ex K) : He.SaysD [] fn K ∧ ex K = true := by
  have c1 : ((fn.all fun d => d.ok K) && ex K) = true := congrArg (fun z : He.AlD => z.1) c
  have c2 : fn.map (fun d => He.fnW K d.at_) = fn.map He.DefD.val := congrArg (fun z : He.AlD => z.2) c
  rw [Bool.and_eq_true] at c1
  refine ⟨?_, c1.2⟩
  unfold He.SaysD He.obsD He.valD
  rw [c2]
  simp only [List.all_nil, Bool.true_and]
  rw [c1.1]
/-! ### the law's promise -/
theorem sp_law {K : PySem.W.Frag} {fa : Nat → Option Addr} {Y : XF} {call : Nat → List D → M D} {i : Nat} {ns : List Int} {a : Addr} {H : Hp} {E : XK} (hO : L2.Only H) (hS : SqL K H a (ns.map V.int)) (h : ∃ g', call i [.scr ns] [] = .ok (.bl true) g') : spD ⟨K, fa, fun _ => False⟩ Y call i 1 [.ref a] H (fun v _ => v = .bl true) E := by
  obtain ⟨g', h⟩ := h
  refine ⟨rfl, fun _ => False, [], [], [.scr ns], ?_, ?_, ?_⟩
  · exact ⟨rfl, fun i j a h => by simp at h, fun n ds h => by simp at h, fun n ds h => by simp at h, fun n a h => by simp at h, fun a z => z.elim⟩
  · rw [RepL.cons]
    refine ⟨.ref a, [], rfl, ?_, by rw [RepL.nil]⟩
    simp only [Rep]
    refine ⟨a, rfl, ?_⟩
    rcases hS with (hS | ⟨o, hS⟩) | hS
    · rcases hO a with q | ⟨o, xs, q⟩
      · rw [hS] at q; cases q
      · rw [hS] at q; cases q
    · exact .inl ⟨o, hS⟩
    · exact .inr hS
  · rw [h]
    intro v H' m' s e r
    exact bl_of r
theorem cx_no {P : Program} {w : World} {o : List Env} {H : Hp} {s : Shared} {e : Value} {s' : Shared} (h : L2.CX P w o H s (fun _ _ _ => False) e s') : False := by
  obtain ⟨_, _, _, _, _, _, _, _, _, _, _, _, z⟩ := h
  exact z
/-- all of it -/
theorem walk_law {l : PySem.W.OpenLaw} {n k i : Nat} {q : Program} {loose : List Str} {XP : (Str → Option Value) → Heap → Prop} {d : DefRec} {x : Str} {top : Nat → Stmt} {L : List Ds} {gl : List (Str × Gk)} {kw : List ((Nat × List Str) × List Nat)} {dl : Ds}
    (hn : l.most = some n) (hn2 : n ≤ sizeLine) (hdf : d.params.defaults = []) (hr : Room k callerA) (hi : L[i]? = some dl) (hx : dl.ps = [x]) (hnm : d.name = dl.name) (hgl : gl.lookup dl.name = some (.fn i))
    (hs : (L.all fun d => scB d.N d.ps (defScope (top d.ix)) && plainP (defArgs (top d.ix)) d.ps) = true)
    (hk : ∀ i ks perm, kw.lookup (i, ks) = some perm → ∀ d, L[i]? = some d → d.ps ≠ [] ∧ ∀ (kV doc pmv : Value) (an : Option Addr) (cdv ct : Value) (ws : List Value), ws.length = perm.length → bindArgs (PySem.W.fnOf d.name d.name (defArgs (top d.ix)) (defBody (top d.ix)) (defScope (top d.ix)) .none kV doc pmv an cdv ct) ⟨[], ks.zip ws⟩ = pure (d.ps.zip (perm.filterMap fun j => ws[j]?)))
    (F : ∀ ns : List Int, ns.length ≤ n → (∀ k ∈ ns, Builtin.Int.intBits k ≤ 1048576) → ∃ g', callT (tab (tT' top L) gl kw) k i [.scr ns] [] = .ok (.bl true) g') :
    PySem.W.WalkO q loose XP (hookE 4 (L.map (Ds.he top)) fun K => gl.all (gkB L K)).says l.row.toRowW d [] (fun f vs => PySem.call f vs) := by
  refine Att.attach_callB hn hdf fun w s₀ s₁ mg mb fa o pm cd doc a vs ns G Y ho hd hcd hmg hobj hints hlen hbits hg => ?_
  obtain ⟨K, KX, c⟩ := Y
  obtain ⟨c1, c2⟩ := c.both
  have J : Known l.prog w K mg (faK K L) (tT' top L) gl kw := known_of c1 hs hk (gkB_ok KX G.T.g c2)
  have hfa : faK K L i = some (He.fAd K (dl.name, none)) := by
    unfold faK
    rw [hi]
    rfl
  have q2 : (L.map (Ds.he top))[i]? = some (dl.he top) := by rw [List.getElem?_map, hi]; rfl
  obtain ⟨fd0, F0⟩ := c1.def_ i q2
  have h2 := List.all_eq_true.mp hs dl (List.mem_of_getElem? hi)
  rw [Bool.and_eq_true] at h2
  have ea : fa = He.fAd K (dl.name, none) := by
    obtain ⟨a', h3, h4⟩ := J.mg ⟨fun _ => none, fun _ => none⟩ (fun _ _ _ => False) _ _ hgl
    have h5 : faK K L i = some a' := h4
    rw [hfa] at h5
    cases h5
    rw [← hnm, hmg] at h3
    cases h3
    rw [hnm]
  subst ea
  have F1 : ∀ base : Heap, K.In base → base.Ns mainGlobals mg → FnOk l.prog w K mg base (L2.CX l.prog w) k (He.fAd K (dl.name, none)) fd0 [x] (spD ⟨K, faK K L, fun _ => False⟩ ⟨fun _ => none, fun _ => none⟩ (callT (tab (tT' top L) gl kw) k) i 1) := fun base _ _ => by
    obtain ⟨d1, fd1, hT1, F2, _, _, _, params, kws, F3⟩ := fns_ok base ⟨fun _ => none, fun _ => none⟩ J k i _ hfa
    have e1 : tT' top L i = some (dl.dd top) := by unfold tT'; rw [hi]; rfl
    rw [e1] at hT1
    cases hT1
    have efd : fd1 = fd0 := by
      obtain ⟨oc, od, dV, kV, doc, pm, an, cdv, ct, osl, e3, lk, _⟩ := F3.ex
      obtain ⟨oc', od', dV', kV', doc', pm', an', cdv', ct', osl', e4, lk', _⟩ := F0.ex
      have lk2 : K.lookup (He.fAd K (dl.name, none)) = some ⟨oc', od', .func fd0, osl'⟩ := lk'
      rw [lk] at lk2
      cases lk2
      rfl
    subst efd
    have e2 : (dl.dd top).ps = [x] := hx
    rw [e2] at F2
    exact F2
  have hb : ∀ (s : Shared) (u : Value), BindsTo s fd0 ⟨[u], []⟩ [(x, u)] := fun s u => by
    have := FunD.bindsA (ps := [x]) F0 (fun kV doc pmv an cdv ct us hl => bind_plain (by rw [← hx]; exact h2.2) kV doc pmv an cdv ct us hl) s [u] rfl
    exact this
  exact law_call KX G.T.g G.T.b G.T.builtins G.T.nolimit hg hobj hints (Nat.le_trans hlen hn2) hr F1 hb (fun H hO hS => sp_law hO hS (F ns hlen hbits)) fun H e s' => cx_no
end L3
set_option Elab.async false
set_option linter.all false
set_option maxRecDepth 100000
set_option maxHeartbeats 8000000
namespace L3
open PySem PySem.Spec PyProof.Rows L2
theorem callT_one {T : Nat → Option Dd} {gl : List (Str × Gk)} {kw : List ((Nat × List Str) × List Nat)} {k i : Nat} {ds : List D} {d : Dd} {b : SF} {env : Env3} (hT : T i = some d) (e : dSs 60 (d.ct gl kw (callT (tab T gl kw) k)) d.body = b)
    (h : (d.ps.length, (ds.map some ++ List.replicate (d.N.length - d.ps.length) none : Env3), d.fr) = (ds.length, env, false)) : callT (tab T gl kw) (k + 1) i ds = runB b env := by
  have e0 : tab T gl kw i = some (d.fd gl kw) := by
    unfold tab
    rw [hT]
    rfl
  obtain ⟨h1, h23⟩ := Prod.mk.inj h
  obtain ⟨h2, h3⟩ := Prod.mk.inj h23
  unfold callT
  rw [e0]
  show (if ds.length = d.ps.length then (if d.fr = true then fin (runB (dSs 60 (d.ct gl kw (callT (tab T gl kw) k)) d.body) (ds.map some ++ List.replicate (d.N.length - d.ps.length) none)) else runB (dSs 60 (d.ct gl kw (callT (tab T gl kw) k)) d.body) (ds.map some ++ List.replicate (d.N.length - d.ps.length) none)) else bot) = _
  rw [if_pos h1.symm, h3, if_neg (by decide), h2, e]
theorem callT_fin {T : Nat → Option Dd} {gl : List (Str × Gk)} {kw : List ((Nat × List Str) × List Nat)} {k i : Nat} {ds : List D} {d : Dd} {b : SF} {env : Env3} (hT : T i = some d) (e : dSs 60 (d.ct gl kw (callT (tab T gl kw) k)) d.body = b)
    (h : (d.ps.length, (ds.map some ++ List.replicate (d.N.length - d.ps.length) none : Env3), d.fr) = (ds.length, env, true)) : callT (tab T gl kw) (k + 1) i ds = fin (runB b env) := by
  have e0 : tab T gl kw i = some (d.fd gl kw) := by
    unfold tab
    rw [hT]
    rfl
  obtain ⟨h1, h23⟩ := Prod.mk.inj h
  obtain ⟨h2, h3⟩ := Prod.mk.inj h23
  unfold callT
  rw [e0]
  show (if ds.length = d.ps.length then (if d.fr = true then fin (runB (dSs 60 (d.ct gl kw (callT (tab T gl kw) k)) d.body) (ds.map some ++ List.replicate (d.N.length - d.ps.length) none)) else runB (dSs 60 (d.ct gl kw (callT (tab T gl kw) k)) d.body) (ds.map some ++ List.replicate (d.N.length - d.ps.length) none)) else bot) = _
  rw [if_pos h1.symm, h3, if_pos rfl, h2, e]
end L3
set_option Elab.async false
set_option linter.all false
set_option maxRecDepth 100000
set_option maxHeartbeats 8000000
namespace L3
/-! ### running -/
section
variable {a b c f : EF} {as : AF} {t u : TF} {env : Env3} {g : G}
@[simp] theorem r_eVar (i : Nat) (env : Env3) : eVar i env = (match env[i]? with
  | some (some d) => ret d
  | _ => bot) := rfl
@[simp] theorem r_eC (d : D) : eC d env = ret d := rfl
@[simp] theorem r_aNil : aNil env = ret [] := rfl
@[simp] theorem r_aCons : aCons a as env = bnd (a env) fun x => bnd (as env) fun xs => ret (x :: xs) := rfl
@[simp] theorem r_eTup : eTup as env = bnd (as env) fun ds => fit ds (ret (.tup ds)) := rfl
@[simp] theorem r_eLst : eLst as env = bnd (as env) fun ds => fit ds (ret (.lst ds)) := rfl
@[simp] theorem r_eNew : eNew as env = bnd (as env) fun ds => fit ds (newCell ds) := rfl
@[simp] theorem r_eBin (h : D → D → M D) : eBin h a b env = bnd (a env) fun x => bnd (b env) fun y => h x y := rfl
@[simp] theorem r_eUn (h : D → M D) : eUn h a env = bnd (a env) h := rfl
@[simp] theorem r_eNot : eNot a env = bnd (a env) fun x => bnd (truD x) fun k => ret (.bl (!k)) := rfl
@[simp] theorem r_eAnd : eAnd a b env = bnd (a env) fun x => bnd (truD x) fun k => if k = true then b env else ret x := rfl
@[simp] theorem r_eOr : eOr a b env = bnd (a env) fun x => bnd (truD x) fun k => if k = true then ret x else b env := rfl
@[simp] theorem r_eIf : eIf t a b env = bnd (t env) fun k => if k = true then a env else b env := rfl
@[simp] theorem r_eCh (h1 h2 : D → D → M D) : eCh h1 h2 a b c env = bnd (a env) fun x => bnd (b env) fun y => bnd (h1 x y) fun z => bnd (blD z) fun k => if k = true then bnd (c env) fun w => h2 y w else ret (.bl false) := rfl
@[simp] theorem r_eCB (h : List D → M D) : eCB h as env = bnd (as env) h := rfl
@[simp] theorem r_eCK (h : List D → M D) (perm : List Nat) (ks : AF) : eCK h perm as ks env = bnd (as env) fun us => bnd (ks env) fun ws => h (pm perm us ws) := rfl
@[simp] theorem r_eCV (h : Nat → List D → M D) : eCV h a as env = bnd (a env) fun f => (match f with
  | .fn i => bnd (as env) (h i)
  | _ => bot) := rfl
@[simp] theorem r_eIsi (T : String) : eIsi T a env = bnd (a env) (isiD T) := rfl
@[simp] theorem r_eSl (lo hi : Env3 → M (Option Int)) : eSl a lo hi env = bnd (a env) fun x => bnd (lo env) fun l => bnd (hi env) fun u => slD x l u := rfl
@[simp] theorem r_oNone : oNone env = ret none := rfl
@[simp] theorem r_oSome : oSome a env = bnd (a env) fun d => (match d with
  | .int i => ret (some i)
  | _ => bot) := rfl
@[simp] theorem r_tBl : tBl a env = bnd (a env) blD := rfl
@[simp] theorem r_tTr : tTr a env = bnd (a env) truD := rfl
@[simp] theorem r_fNot : fNot t env = bnd (t env) fun k => ret (!k) := rfl
@[simp] theorem r_fAnd : fAnd t u env = bnd (t env) fun k => if k = true then u env else ret false := rfl
@[simp] theorem r_fOr : fOr t u env = bnd (t env) fun k => if k = true then ret true else u env := rfl
@[simp] theorem r_fYes : fYes env = ret true := rfl
@[simp] theorem r_blD (k : Bool) : blD (.bl k) = ret k := rfl
@[simp] theorem r_wVal : wVal a env = bnd (a env) wkD := rfl
@[simp] theorem r_wRng1 : wRng1 as env = bnd (as env) rng1D := rfl
@[simp] theorem r_wRng2 : wRng2 as env = bnd (as env) rng2D := rfl
@[simp] theorem r_wZip : wZip as env = bnd (as env) zipD := rfl
@[simp] theorem r_gNm (i : Nat) (d : D) : gNm i d env = ret (env.set i (some d)) := rfl
@[simp] theorem r_gsNil : gsNil [] env = ret env := rfl
@[simp] theorem r_gsCons (gf : GF) (gr : List D → Env3 → M Env3) (d : D) (ds : List D) : gsCons gf gr (d :: ds) env = bnd (gf d env) fun env => gr ds env := rfl
@[simp] theorem r_gTp (n : Nat) (gs : List D → Env3 → M Env3) (ds : List D) : gTp n gs (.tup ds) env = if ds.length = n then gs ds env else bot := rfl
@[simp] theorem r_gSb (o i : EF) (d : D) : gSb o i d env = bnd (o env) fun ov => bnd (i env) fun iv => bnd (setD ov iv d) fun _ => ret env := rfl
@[simp] theorem r_sNx : sNx env = ret (.nx env) := rfl
@[simp] theorem r_sSeq (f k : SF) : sSeq f k env = bnd (f env) fun r => (match r with
  | .nx e => k e
  | r => ret r) := rfl
@[simp] theorem r_sRt : sRt a env = bnd (a env) fun d => ret (.rt d) := rfl
@[simp] theorem r_sRtN : sRtN env = ret (.rt .non) := rfl
@[simp] theorem r_sEx : sEx a env = bnd (a env) fun _ => ret (.nx env) := rfl
@[simp] theorem r_sIf (x y : SF) : sIf t x y env = bnd (t env) fun k => if k = true then x env else y env := rfl
@[simp] theorem r_sAs (gf : GF) : sAs a gf env = bnd (a env) fun d => bnd (gf d env) fun e => ret (.nx e) := rfl
@[simp] theorem r_sP2 (i j : Nat) : sP2 i j as env = bnd (as env) fun ds => (match ds with
  | [x, y] => ret (.nx ((env.set i (some x)).set j (some y)))
  | _ => bot) := rfl
@[simp] theorem r_sP3 (i j l : Nat) : sP3 i j l as env = bnd (as env) fun ds => (match ds with
  | [x, y, z] => ret (.nx (((env.set i (some x)).set j (some y)).set l (some z)))
  | _ => bot) := rfl
@[simp] theorem r_runB (f : SF) : runB f env = bnd (f env) fun r => (match r with
  | .rt d => ret d
  | .nx _ => ret .non
  | _ => bot) := rfl
@[simp] theorem r_ite_bnd {α β : Type} (p : Prop) [Decidable p] (m n : M α) (k : α → M β) : bnd (if p then m else n) k = if p then bnd m k else bnd n k := by
  split <;> rfl
@[simp] theorem r_bnd_bnd {α β γ : Type} (m : M α) (k : α → M β) (l : β → M γ) : bnd (bnd m k) l = bnd m fun x => bnd (k x) l := bnd_assoc m k l
end
/-! values -/
theorem deref_tup (ds : List D) : deref (.tup ds) = ret (.tup ds) := rfl
theorem deref_lst (ds : List D) : deref (.lst ds) = ret (.lst ds) := rfl
theorem deref_int (i : Int) : deref (.int i) = ret (.int i) := rfl
@[simp] theorem r_add (i j : Int) : addD (.int i) (.int j) = ret (.int (i + j)) := rfl
@[simp] theorem r_sub (i j : Int) : subD (.int i) (.int j) = ret (.int (i - j)) := rfl
@[simp] theorem r_mul (i j : Int) : mulD (.int i) (.int j) = if mulOk i j = true then ret (.int (i * j)) else bot := rfl
@[simp] theorem r_fdiv (i j : Int) : fdivD (.int i) (.int j) = if divOk i j = true then ret (.int (i / j)) else bot := rfl
@[simp] theorem r_mod (i j : Int) : modD (.int i) (.int j) = if 0 < j then ret (.int (i % j)) else bot := rfl
@[simp] theorem r_lt (i j : Int) : ltD (.int i) (.int j) = ret (.bl (decide (i < j))) := rfl
@[simp] theorem r_le (i j : Int) : leD (.int i) (.int j) = ret (.bl (decide (i ≤ j))) := rfl
@[simp] theorem r_gt (i j : Int) : gtD (.int i) (.int j) = ret (.bl (decide (j < i))) := rfl
@[simp] theorem r_ge (i j : Int) : geD (.int i) (.int j) = ret (.bl (decide (j ≤ i))) := rfl
example (x y : D) : eVar 2 [some x, none, some y, none] = ret y := by simp
end L3
set_option Elab.async false
set_option linter.all false
set_option maxRecDepth 100000
namespace L3
open PySem
noncomputable def B_ratio (call : Nat → List D → M D) : SF := sSeq (sAs (eCB (bi gcdD) (aCons (eVar 0) (aCons (eVar 1) aNil))) (gNm 2)) (sSeq (sRt (eTup (aCons (eBin fdivD (eVar 0) (eVar 2)) (aCons (eBin fdivD (eVar 1) (eVar 2)) aNil)))) (sNx))
noncomputable def B_plus (call : Nat → List D → M D) (f_ratio : Nat) : SF := sSeq (sRt (eCB (call f_ratio) (aCons (eBin addD (eBin mulD (eBin idxD (eVar 0) (eC (.int 0))) (eBin idxD (eVar 1) (eC (.int 1)))) (eBin mulD (eBin idxD (eVar 1) (eC (.int 0))) (eBin idxD (eVar 0) (eC (.int 1))))) (aCons (eBin mulD (eBin idxD (eVar 0) (eC (.int 1))) (eBin idxD (eVar 1) (eC (.int 1)))) aNil)))) (sNx)
noncomputable def B_times (call : Nat → List D → M D) (f_ratio : Nat) : SF := sSeq (sRt (eCB (call f_ratio) (aCons (eBin mulD (eBin idxD (eVar 0) (eC (.int 0))) (eBin idxD (eVar 1) (eC (.int 0)))) (aCons (eBin mulD (eBin idxD (eVar 0) (eC (.int 1))) (eBin idxD (eVar 1) (eC (.int 1)))) aNil)))) (sNx)
noncomputable def B_sum_of (call : Nat → List D → M D) (f_plus : Nat) : SF := sSeq (sAs (eC (.tup [(.int 0), (.int 1)])) (gNm 1)) (sSeq (sFor (wVal (eVar 0)) (gNm 2) (sSeq (sAs (eCB (call f_plus) (aCons (eVar 1) (aCons (eVar 2) aNil))) (gNm 1)) (sNx))) (sSeq (sRt (eVar 1)) (sNx)))
noncomputable def B_dot (call : Nat → List D → M D) (f_sum_of f_times : Nat) : SF := sSeq (sRt (eCB (call f_sum_of) (aCons (eComp [2, 3] (wZip (aCons (eVar 0) (aCons (eVar 1) aNil))) (gTp 2 (gsCons (gNm 2) (gsCons (gNm 3) gsNil))) fYes (eCB (call f_times) (aCons (eVar 2) (aCons (eVar 3) aNil))) false) aNil))) (sNx)
noncomputable def B_products (call : Nat → List D → M D) (f_times : Nat) : SF := sSeq (sRt (eCB (un tupD) (aCons (eComp [2, 3] (wZip (aCons (eVar 0) (aCons (eVar 1) aNil))) (gTp 2 (gsCons (gNm 2) (gsCons (gNm 3) gsNil))) fYes (eCB (call f_times) (aCons (eVar 2) (aCons (eVar 3) aNil))) false) aNil))) (sNx)
noncomputable def B_are_zero (call : Nat → List D → M D) : SF := sSeq (sRt (eCB (un allD) (aCons (eComp [1] (wVal (eVar 0)) (gNm 1) fYes (eBin eqD (eVar 1) (eC (.tup [(.int 0), (.int 1)]))) false) aNil))) (sNx)
noncomputable def B_is_whole (call : Nat → List D → M D) : SF := sSeq (sRt (eAnd (eIsi "int" (eVar 0)) (eNot (eIsi "bool" (eVar 0))))) (sNx)
noncomputable def B_is_tuple_up_to (call : Nat → List D → M D) : SF := sSeq (sRt (eAnd (eIsi "tuple" (eVar 0)) (eCh leD leD (eVar 1) (eCB (un lenD) (aCons (eVar 0) aNil)) (eVar 2)))) (sNx)
noncomputable def B_is_tuple_of (call : Nat → List D → M D) (f_is_tuple_up_to : Nat) : SF := sSeq (sRt (eCB (call f_is_tuple_up_to) (aCons (eVar 0) (aCons (eVar 1) (aCons (eVar 1) aNil))))) (sNx)
noncomputable def B_are_all (call : Nat → List D → M D) (f_is_tuple_of : Nat) : SF := sSeq (sRt (eAnd (eCB (call f_is_tuple_of) (aCons (eVar 0) (aCons (eVar 1) aNil))) (eCB (un allD) (aCons (eComp [3] (wVal (eVar 0)) (gNm 3) fYes (eCV call (eVar 2) (aCons (eVar 3) aNil)) false) aNil)))) (sNx)
noncomputable def B_is_ratio (call : Nat → List D → M D) (f_are_all f_is_whole : Nat) : SF := sSeq (sRt (eAnd (eCB (call f_are_all) (aCons (eVar 0) (aCons (eC (.int 2)) (aCons (eC (.fn f_is_whole)) aNil)))) (eAnd (eBin gtD (eBin idxD (eVar 0) (eC (.int 1))) (eC (.int 0))) (eBin eqD (eCB (bi gcdD) (aCons (eBin idxD (eVar 0) (eC (.int 0))) (aCons (eBin idxD (eVar 0) (eC (.int 1))) aNil))) (eC (.int 1)))))) (sNx)
noncomputable def B_is_content (call : Nat → List D → M D) (f_is_ratio : Nat) : SF := sSeq (sRt (eAnd (eCB (call f_is_ratio) (aCons (eVar 0) aNil)) (eBin geD (eBin idxD (eVar 0) (eC (.int 0))) (eC (.int 0))))) (sNx)
noncomputable def B_is_share (call : Nat → List D → M D) (f_is_content : Nat) : SF := sSeq (sRt (eAnd (eCB (call f_is_content) (aCons (eVar 0) aNil)) (eBin leD (eBin idxD (eVar 0) (eC (.int 0))) (eBin idxD (eVar 0) (eC (.int 1)))))) (sNx)
noncomputable def B_is_light_of (call : Nat → List D → M D) (f_are_all f_is_content : Nat) : SF := sSeq (sRt (eCB (call f_are_all) (aCons (eVar 0) (aCons (eVar 1) (aCons (eC (.fn f_is_content)) aNil))))) (sNx)
noncomputable def B_is_lamp_of (call : Nat → List D → M D) (f_is_light_of f_are_zero : Nat) : SF := sSeq (sRt (eAnd (eCB (call f_is_light_of) (aCons (eVar 0) (aCons (eVar 1) aNil))) (eNot (eCB (call f_are_zero) (aCons (eVar 0) aNil))))) (sNx)
noncomputable def B_is_surface_of (call : Nat → List D → M D) (f_are_all f_is_share : Nat) : SF := sSeq (sRt (eCB (call f_are_all) (aCons (eVar 0) (aCons (eVar 1) (aCons (eC (.fn f_is_share)) aNil))))) (sNx)
noncomputable def B_is_eye_of (call : Nat → List D → M D) (f_is_tuple_up_to f_is_lamp_of : Nat) : SF := sSeq (sRt (eAnd (eCB (call f_is_tuple_up_to) (aCons (eVar 0) (aCons (eC (.int 1)) (aCons (eC (.int 4)) aNil)))) (eCB (un allD) (aCons (eComp [2] (wVal (eVar 0)) (gNm 2) fYes (eCB (call f_is_lamp_of) (aCons (eVar 2) (aCons (eVar 1) aNil))) false) aNil)))) (sNx)
noncomputable def B_width_in (call : Nat → List D → M D) (f_is_tuple_up_to : Nat) : SF := sSeq (sRt (eIf (tTr (eCB (call f_is_tuple_up_to) (aCons (eVar 0) (aCons (eC (.int 1)) (aCons (eC (.int 6)) aNil))))) (eCB (un lenD) (aCons (eVar 0) aNil)) (eC (.int 0)))) (sNx)
noncomputable def B_is_any_light (call : Nat → List D → M D) (f_width_in f_is_light_of : Nat) : SF := sSeq (sRt (eAnd (eBin gtD (eCB (call f_width_in) (aCons (eVar 0) aNil)) (eC (.int 0))) (eCB (call f_is_light_of) (aCons (eVar 0) (aCons (eCB (call f_width_in) (aCons (eVar 0) aNil)) aNil))))) (sNx)
noncomputable def B_is_any_lamp (call : Nat → List D → M D) (f_is_any_light f_are_zero : Nat) : SF := sSeq (sRt (eAnd (eCB (call f_is_any_light) (aCons (eVar 0) aNil)) (eNot (eCB (call f_are_zero) (aCons (eVar 0) aNil))))) (sNx)
noncomputable def B_is_any_eye (call : Nat → List D → M D) (f_is_tuple_up_to f_width_in f_is_eye_of : Nat) : SF := sSeq (sIf (fOr (fNot (tTr (eCB (call f_is_tuple_up_to) (aCons (eVar 0) (aCons (eC (.int 1)) (aCons (eC (.int 4)) aNil)))))) (tBl (eBin eqD (eCB (call f_width_in) (aCons (eBin idxD (eVar 0) (eC (.int 0))) aNil)) (eC (.int 0))))) (sSeq (sRt (eC (.bl false))) (sNx)) (sNx)) (sSeq (sRt (eCB (call f_is_eye_of) (aCons (eVar 0) (aCons (eCB (call f_width_in) (aCons (eBin idxD (eVar 0) (eC (.int 0))) aNil)) aNil)))) (sNx))
noncomputable def B_width_of (call : Nat → List D → M D) : SF := sSeq (sRt (eCB (un lenD) (aCons (eBin idxD (eVar 0) (eC (.int 0))) aNil))) (sNx)
noncomputable def B_check_eye (call : Nat → List D → M D) (f_is_any_eye : Nat) : SF := sSeq (sIf (fNot (tTr (eCB (call f_is_any_eye) (aCons (eVar 0) aNil)))) (sSeq (sBot) (sNx)) (sNx)) (sNx)
noncomputable def B_check_light (call : Nat → List D → M D) (f_is_light_of : Nat) : SF := sSeq (sIf (fNot (tTr (eCB (call f_is_light_of) (aCons (eVar 0) (aCons (eVar 1) aNil))))) (sSeq (sBot) (sNx)) (sNx)) (sNx)
noncomputable def B_check_any_lamp (call : Nat → List D → M D) (f_is_any_lamp : Nat) : SF := sSeq (sIf (fNot (tTr (eCB (call f_is_any_lamp) (aCons (eVar 0) aNil)))) (sSeq (sBot) (sNx)) (sNx)) (sNx)
noncomputable def B_check_lamp (call : Nat → List D → M D) (f_is_lamp_of : Nat) : SF := sSeq (sIf (fNot (tTr (eCB (call f_is_lamp_of) (aCons (eVar 0) (aCons (eVar 1) aNil))))) (sSeq (sBot) (sNx)) (sNx)) (sNx)
noncomputable def B_check_surface (call : Nat → List D → M D) (f_is_surface_of : Nat) : SF := sSeq (sIf (fNot (tTr (eCB (call f_is_surface_of) (aCons (eVar 0) (aCons (eVar 1) aNil))))) (sSeq (sBot) (sNx)) (sNx)) (sNx)
noncomputable def B_look_by (call : Nat → List D → M D) (f_dot : Nat) : SF := sSeq (sRt (eCB (un tupD) (aCons (eComp [2] (wVal (eVar 0)) (gNm 2) fYes (eCB (call f_dot) (aCons (eVar 2) (aCons (eVar 1) aNil))) false) aNil))) (sNx)
noncomputable def B_lit_by (call : Nat → List D → M D) (f_products : Nat) : SF := sSeq (sRt (eCB (call f_products) (aCons (eVar 0) (aCons (eVar 1) aNil)))) (sNx)
noncomputable def B_look_under_by (call : Nat → List D → M D) (f_look_by f_lit_by : Nat) : SF := sSeq (sRt (eCB (call f_look_by) (aCons (eVar 0) (aCons (eCB (call f_lit_by) (aCons (eVar 1) (aCons (eVar 2) aNil))) aNil)))) (sNx)
noncomputable def B_is_light (call : Nat → List D → M D) (f_is_any_light : Nat) : SF := sSeq (sRt (eCB (call f_is_any_light) (aCons (eVar 0) aNil))) (sNx)
noncomputable def B_look_of (call : Nat → List D → M D) (f_check_eye f_check_light f_width_of f_look_by : Nat) : SF := sSeq (sEx (eCB (call f_check_eye) (aCons (eVar 0) aNil))) (sSeq (sEx (eCB (call f_check_light) (aCons (eVar 1) (aCons (eCB (call f_width_of) (aCons (eVar 0) aNil)) aNil)))) (sSeq (sRt (eCB (call f_look_by) (aCons (eVar 0) (aCons (eVar 1) aNil)))) (sNx)))
noncomputable def B_lit (call : Nat → List D → M D) (f_check_any_lamp f_check_surface f_lit_by : Nat) : SF := sSeq (sEx (eCB (call f_check_any_lamp) (aCons (eVar 0) aNil))) (sSeq (sEx (eCB (call f_check_surface) (aCons (eVar 1) (aCons (eCB (un lenD) (aCons (eVar 0) aNil)) aNil)))) (sSeq (sRt (eCB (call f_lit_by) (aCons (eVar 0) (aCons (eVar 1) aNil)))) (sNx)))
noncomputable def B_look_under (call : Nat → List D → M D) (f_check_eye f_check_lamp f_width_of f_check_surface f_look_under_by : Nat) : SF := sSeq (sEx (eCB (call f_check_eye) (aCons (eVar 0) aNil))) (sSeq (sEx (eCB (call f_check_lamp) (aCons (eVar 1) (aCons (eCB (call f_width_of) (aCons (eVar 0) aNil)) aNil)))) (sSeq (sEx (eCB (call f_check_surface) (aCons (eVar 2) (aCons (eCB (call f_width_of) (aCons (eVar 0) aNil)) aNil)))) (sSeq (sRt (eCB (call f_look_under_by) (aCons (eVar 0) (aCons (eVar 1) (aCons (eVar 2) aNil))))) (sNx))))
noncomputable def B__law_pool (call : Nat → List D → M D) (c1 c2 c3 c4 c5 c6 c7 c8 c9 c10 : Int) : SF := sSeq (sAs (eIf (tBl (eBin ltD (eVar 1) (eCB (un lenD) (aCons (eVar 0) aNil)))) (eCB (un intD) (aCons (eBin idxD (eVar 0) (eVar 1)) aNil)) (eBin addD (eBin mulD (eC (.int c1)) (eVar 1)) (eC (.int c2)))) (gNm 2)) (sSeq (sAs (eBin addD (eC (.int c3)) (eBin mulD (eC (.int c4)) (eVar 1))) (gNm 3)) (sSeq (sFor (wVal (eSl (eVar 0) oNone (oSome (eC (.int 12))))) (gNm 4) (sSeq (sAs (eBin modD (eCB (un intD) (aCons (eBin addD (eBin addD (eBin mulD (eVar 3) (eC (.int c5))) (eBin modD (eCB (un intD) (aCons (eVar 4) aNil)) (eC (.int c6)))) (eC (.int 43))) aNil)) (eC (.int c7))) (gNm 3)) (sNx))) (sSeq (sAs (eBin modD (eCB (un intD) (aCons (eBin addD (eBin addD (eBin mulD (eVar 3) (eC (.int 47))) (eBin mulD (eBin modD (eCB (un intD) (aCons (eVar 2) aNil)) (eC (.int c8))) (eC (.int c9)))) (eC (.int 11))) aNil)) (eC (.int c10))) (gNm 3)) (sSeq (sRt (eNew (aCons (eIf (fOr (tBl (eBin ltD (eVar 2) (eC (.int 0)))) (tBl (eBin geD (eVar 2) (eBin powD (eC (.int 10)) (eC (.int 15)))))) (eCB (un absD) (aCons (eVar 2) aNil)) (eC (.int 0))) (aCons (eVar 3) (aCons (eC (.int 0)) aNil))))) (sNx)))))
noncomputable def B__law_below (call : Nat → List D → M D) (c1 c2 c3 c4 c5 c6 c7 : Int) : SF := sSeq (sIf (tBl (eBin gtD (eBin idxD (eVar 0) (eC (.int 0))) (eC (.int 0)))) (sSeq (sAs (eCB (bi divmodD) (aCons (eBin idxD (eVar 0) (eC (.int 0))) (aCons (eVar 1) aNil))) (gTp 2 (gsCons (gSb (eVar 0) (eC (.int 0))) (gsCons (gNm 2) gsNil)))) (sSeq (sRt (eVar 2)) (sNx))) (sNx)) (sSeq (sAs (eBin addD (eBin idxD (eVar 0) (eC (.int 2))) (eC (.int 1))) (gSb (eVar 0) (eC (.int 2)))) (sSeq (sAs (eBin modD (eCB (un intD) (aCons (eBin addD (eBin addD (eBin mulD (eBin idxD (eVar 0) (eC (.int 1))) (eC (.int c1))) (eBin mulD (eC (.int c2)) (eBin idxD (eVar 0) (eC (.int 2))))) (eC (.int 71))) aNil)) (eC (.int c3))) (gNm 3)) (sSeq (sAs (eBin modD (eCB (un intD) (aCons (eBin addD (eBin mulD (eVar 3) (eBin addD (eBin modD (eCB (un intD) (aCons (eVar 3) aNil)) (eC (.int c4))) (eC (.int c5)))) (eBin idxD (eVar 0) (eC (.int 2)))) aNil)) (eC (.int c6))) (gSb (eVar 0) (eC (.int 1)))) (sSeq (sRt (eBin modD (eCB (un intD) (aCons (eBin fdivD (eBin idxD (eVar 0) (eC (.int 1))) (eC (.int c7))) aNil)) (eVar 1))) (sNx)))))
noncomputable def B__law_one (call : Nat → List D → M D) (f__law_below : Nat) : SF := sSeq (sRt (eBin idxD (eVar 1) (eCB (call f__law_below) (aCons (eVar 0) (aCons (eCB (un lenD) (aCons (eVar 1) aNil)) aNil))))) (sNx)
noncomputable def B__law_ratio (call : Nat → List D → M D) : SF := sSeq (sP2 2 3 (aCons (eCB (un absD) (aCons (eVar 0) aNil)) (aCons (eCB (un absD) (aCons (eVar 1) aNil)) aNil))) (sSeq (sWhile (tBl (eBin gtD (eVar 3) (eC (.int 0)))) (sSeq (sP2 2 3 (aCons (eVar 3) (aCons (eBin modD (eCB (un intD) (aCons (eVar 2) aNil)) (eVar 3)) aNil))) (sNx))) (sSeq (sRt (eIf (tBl (eBin gtD (eVar 1) (eC (.int 0)))) (eTup (aCons (eBin fdivD (eVar 0) (eVar 2)) (aCons (eBin fdivD (eVar 1) (eVar 2)) aNil))) (eTup (aCons (eBin subD (eC (.int 0)) (eBin fdivD (eVar 0) (eVar 2))) (aCons (eBin subD (eC (.int 0)) (eBin fdivD (eVar 1) (eVar 2))) aNil))))) (sNx)))
noncomputable def B__law_plus (call : Nat → List D → M D) (f__law_ratio : Nat) : SF := sSeq (sRt (eCB (call f__law_ratio) (aCons (eBin addD (eBin mulD (eBin idxD (eVar 0) (eC (.int 0))) (eBin idxD (eVar 1) (eC (.int 1)))) (eBin mulD (eBin idxD (eVar 1) (eC (.int 0))) (eBin idxD (eVar 0) (eC (.int 1))))) (aCons (eBin mulD (eBin idxD (eVar 0) (eC (.int 1))) (eBin idxD (eVar 1) (eC (.int 1)))) aNil)))) (sNx)
noncomputable def B__law_times (call : Nat → List D → M D) (f__law_ratio : Nat) : SF := sSeq (sRt (eCB (call f__law_ratio) (aCons (eBin mulD (eBin idxD (eVar 0) (eC (.int 0))) (eBin idxD (eVar 1) (eC (.int 0)))) (aCons (eBin mulD (eBin idxD (eVar 0) (eC (.int 1))) (eBin idxD (eVar 1) (eC (.int 1)))) aNil)))) (sNx)
noncomputable def B__law_dot (call : Nat → List D → M D) (f__law_plus f__law_times : Nat) : SF := sSeq (sAs (eTup (aCons (eC (.int 0)) (aCons (eC (.int 1)) aNil))) (gNm 2)) (sSeq (sFor (wZip (aCons (eVar 0) (aCons (eVar 1) aNil))) (gTp 2 (gsCons (gNm 3) (gsCons (gNm 4) gsNil))) (sSeq (sAs (eCB (call f__law_plus) (aCons (eVar 2) (aCons (eCB (call f__law_times) (aCons (eVar 3) (aCons (eVar 4) aNil))) aNil))) (gNm 2)) (sNx))) (sSeq (sRt (eVar 2)) (sNx)))
noncomputable def B__law_content (call : Nat → List D → M D) (f__law_below f__law_ratio : Nat) : SF := sSeq (sAs (eCB (call f__law_below) (aCons (eVar 0) (aCons (eC (.int 8)) aNil))) (gNm 1)) (sSeq (sIf (tBl (eBin ltD (eVar 1) (eC (.int 2)))) (sSeq (sRt (eTup (aCons (eC (.int 0)) (aCons (eC (.int 1)) aNil)))) (sNx)) (sNx)) (sSeq (sIf (tBl (eBin eqD (eVar 1) (eC (.int 2)))) (sSeq (sRt (eTup (aCons (eC (.int 1)) (aCons (eC (.int 1)) aNil)))) (sNx)) (sNx)) (sSeq (sIf (tBl (eBin eqD (eVar 1) (eC (.int 7)))) (sSeq (sRt (eCB (call f__law_ratio) (aCons (eCB (call f__law_below) (aCons (eVar 0) (aCons (eBin powD (eC (.int 10)) (eC (.int 12))) aNil))) (aCons (eBin addD (eC (.int 1)) (eCB (call f__law_below) (aCons (eVar 0) (aCons (eBin powD (eC (.int 10)) (eC (.int 9))) aNil)))) aNil)))) (sNx)) (sNx)) (sSeq (sRt (eCB (call f__law_ratio) (aCons (eCB (call f__law_below) (aCons (eVar 0) (aCons (eC (.int 7)) aNil))) (aCons (eBin addD (eC (.int 1)) (eCB (call f__law_below) (aCons (eVar 0) (aCons (eC (.int 5)) aNil)))) aNil)))) (sNx)))))
noncomputable def B__law_share (call : Nat → List D → M D) (f__law_one f__law_below f__law_ratio : Nat) : SF := sSeq (sAs (eCB (call f__law_one) (aCons (eVar 0) (aCons (eTup (aCons (eC (.int 1)) (aCons (eC (.int 2)) (aCons (eC (.int 3)) (aCons (eC (.int 4)) (aCons (eC (.int 10)) (aCons (eBin addD (eC (.int 1)) (eCB (call f__law_below) (aCons (eVar 0) (aCons (eBin powD (eC (.int 10)) (eC (.int 9))) aNil)))) aNil))))))) aNil))) (gNm 1)) (sSeq (sRt (eCB (call f__law_ratio) (aCons (eCB (call f__law_one) (aCons (eVar 0) (aCons (eTup (aCons (eC (.int 0)) (aCons (eVar 1) (aCons (eCB (call f__law_below) (aCons (eVar 0) (aCons (eBin addD (eVar 1) (eC (.int 1))) aNil))) aNil)))) aNil))) (aCons (eVar 1) aNil)))) (sNx))
noncomputable def B__law_light (call : Nat → List D → M D) (f__law_content : Nat) : SF := sSeq (sRt (eCB (un tupD) (aCons (eComp [2] (wRng1 (aCons (eVar 1) aNil)) (gNm 2) fYes (eCB (call f__law_content) (aCons (eVar 0) aNil)) false) aNil))) (sNx)
noncomputable def B__law_lamp (call : Nat → List D → M D) (f__law_light f__law_below : Nat) : SF := sSeq (sAs (eCB (call f__law_light) (aCons (eVar 0) (aCons (eVar 1) aNil))) (gNm 2)) (sSeq (sRt (eIf (tTr (eCB (un anyD) (aCons (eComp [3] (wVal (eVar 2)) (gNm 3) fYes (eBin gtD (eBin idxD (eVar 3) (eC (.int 0))) (eC (.int 0))) false) aNil))) (eVar 2) (eCB (un tupD) (aCons (eBin addD (eLst (aCons (eTup (aCons (eBin addD (eC (.int 1)) (eCB (call f__law_below) (aCons (eVar 0) (aCons (eC (.int 3)) aNil)))) (aCons (eC (.int 1)) aNil))) aNil)) (eBin mulD (eLst (aCons (eTup (aCons (eC (.int 0)) (aCons (eC (.int 1)) aNil))) aNil)) (eBin subD (eVar 1) (eC (.int 1))))) aNil)))) (sNx))
noncomputable def B__law_surface (call : Nat → List D → M D) (f__law_share : Nat) : SF := sSeq (sRt (eCB (un tupD) (aCons (eComp [2] (wRng1 (aCons (eVar 1) aNil)) (gNm 2) fYes (eCB (call f__law_share) (aCons (eVar 0) aNil)) false) aNil))) (sNx)
noncomputable def B__law_eye (call : Nat → List D → M D) (f__law_below f__law_lamp f__law_one f__law_plus f__law_times : Nat) : SF := sSeq (sP2 3 4 (aCons (eNew aNil) (aCons (eComp [10] (wRng1 (aCons (eVar 1) aNil)) (gNm 10) fYes (eBin eqD (eCB (call f__law_below) (aCons (eVar 0) (aCons (eC (.int 6)) aNil))) (eC (.int 0))) false) aNil))) (sSeq (sFor (wRng1 (aCons (eBin addD (eC (.int 1)) (eCB (call f__law_below) (aCons (eVar 0) (aCons (eVar 2) aNil)))) aNil)) (gNm 5) (sSeq (sAs (eCB (call f__law_lamp) (aCons (eVar 0) (aCons (eVar 1) aNil))) (gNm 6)) (sSeq (sIf (fAnd (tBl (eBin neD (eVar 3) (eLst aNil))) (tBl (eBin eqD (eCB (call f__law_below) (aCons (eVar 0) (aCons (eC (.int 3)) aNil))) (eC (.int 0))))) (sSeq (sP2 7 8 (aCons (eCB (call f__law_one) (aCons (eVar 0) (aCons (eVar 3) aNil))) (aCons (eCB (call f__law_one) (aCons (eVar 0) (aCons (eVar 3) aNil))) aNil))) (sSeq (sAs (eCB (un tupD) (aCons (eComp [13, 14] (wZip (aCons (eVar 7) (aCons (eVar 8) aNil))) (gTp 2 (gsCons (gNm 13) (gsCons (gNm 14) gsNil))) fYes (eCB (call f__law_plus) (aCons (eVar 13) (aCons (eCB (call f__law_times) (aCons (eTup (aCons (eC (.int 2)) (aCons (eC (.int 1)) aNil))) (aCons (eVar 14) aNil))) aNil))) false) aNil)) (gNm 6)) (sNx))) (sNx)) (sSeq (sAs (eCB (un tupD) (aCons (eComp [11, 12] (wZip (aCons (eVar 6) (aCons (eVar 4) aNil))) (gTp 2 (gsCons (gNm 11) (gsCons (gNm 12) gsNil))) fYes (eIf (tTr (eVar 12)) (eTup (aCons (eC (.int 0)) (aCons (eC (.int 1)) aNil))) (eVar 11)) false) aNil)) (gNm 9)) (sSeq (sEx (eApp (eVar 3) (eIf (tTr (eCB (un anyD) (aCons (eComp [11] (wVal (eVar 9)) (gNm 11) fYes (eBin gtD (eBin idxD (eVar 11) (eC (.int 0))) (eC (.int 0))) false) aNil))) (eVar 9) (eVar 6)))) (sNx)))))) (sSeq (sRt (eCB (un tupD) (aCons (eVar 3) aNil))) (sNx)))
noncomputable def B__law_look (call : Nat → List D → M D) (f__law_dot : Nat) : SF := sSeq (sRt (eCB (un tupD) (aCons (eComp [2] (wVal (eVar 0)) (gNm 2) fYes (eCB (call f__law_dot) (aCons (eVar 2) (aCons (eVar 1) aNil))) false) aNil))) (sNx)
noncomputable def B__law_lit (call : Nat → List D → M D) (f__law_times : Nat) : SF := sSeq (sRt (eCB (un tupD) (aCons (eComp [2, 3] (wZip (aCons (eVar 0) (aCons (eVar 1) aNil))) (gTp 2 (gsCons (gNm 2) (gsCons (gNm 3) gsNil))) fYes (eCB (call f__law_times) (aCons (eVar 2) (aCons (eVar 3) aNil))) false) aNil))) (sNx)
noncomputable def B__law_same (call : Nat → List D → M D) (f__law_same : Nat) : SF := sSeq (sIf (tBl (eBin isD (eVar 1) (eC .non))) (sSeq (sRt (eBin isD (eVar 0) (eC .non))) (sNx)) (sNx)) (sSeq (sIf (tTr (eIsi "bool" (eVar 1))) (sSeq (sRt (eAnd (eIsi "bool" (eVar 0)) (eBin eqD (eVar 0) (eVar 1)))) (sNx)) (sNx)) (sSeq (sIf (tTr (eIsi "int" (eVar 1))) (sSeq (sRt (eAnd (eIsi "int" (eVar 0)) (eAnd (eNot (eIsi "bool" (eVar 0))) (eBin eqD (eVar 0) (eVar 1))))) (sNx)) (sNx)) (sSeq (sIf (tTr (eIsi "str" (eVar 1))) (sSeq (sRt (eAnd (eIsi "str" (eVar 0)) (eBin eqD (eVar 0) (eVar 1)))) (sNx)) (sNx)) (sSeq (sIf (fOr (fNot (tTr (eIsi "tuple" (eVar 0)))) (tBl (eBin neD (eCB (un lenD) (aCons (eVar 0) aNil)) (eCB (un lenD) (aCons (eVar 1) aNil))))) (sSeq (sRt (eC (.bl false))) (sNx)) (sNx)) (sSeq (sRt (eCB (un allD) (aCons (eComp [2, 3] (wZip (aCons (eVar 0) (aCons (eVar 1) aNil))) (gTp 2 (gsCons (gNm 2) (gsCons (gNm 3) gsNil))) fYes (eCB (call f__law_same) (aCons (eVar 2) (aCons (eVar 3) aNil))) false) aNil))) (sNx))))))
end L3
set_option Elab.async false
set_option linter.all false
set_option maxRecDepth 100000
set_option maxHeartbeats 4000000
namespace L3
/-! ### numbers of a bounded size -/
def S9 (i : Int) : Prop := i.natAbs < 2 ^ 9000
set_option exponentiation.threshold 20
theorem log2_lt {a n : Nat} (h : a < 2 ^ n) (hn : 0 < n) : a.log2 < n := by
  by_cases h0 : a = 0
  · subst h0
    simpa using hn
  · exact (Nat.log2_lt h0).mpr h
theorem mulOk_S9 {a b : Int} (ha : S9 a) (hb : S9 b) : mulOk a b = true := by
  unfold mulOk
  have h1 := log2_lt ha (by decide)
  have h2 := log2_lt hb (by decide)
  exact decide_eq_true (by omega)
theorem divOk_S9 {a b : Int} (h : 0 < b) (hb : S9 b) : divOk a b = true := by
  unfold divOk PySem.Builtin.divisionGoesByPylong
  have h2 := log2_lt hb (by decide)
  have hb0 : (b == 0) = false := by
    rw [beq_eq_false_iff_ne]
    omega
  have h3 : (if (b == 0) = true then 0 else b.natAbs.log2 / 30 + 1) ≤ 300 := by
    rw [hb0]
    simp only [Bool.false_eq_true, if_false]
    omega
  simp only [Bool.and_eq_true, decide_eq_true_eq, Bool.not_eq_true', Bool.and_eq_false_iff, decide_eq_false_iff_not]
  exact ⟨h, .inl (by omega)⟩
theorem S9_of {i : Int} {n : Nat} (h : i.natAbs < 2 ^ n) (hn : n ≤ 9000) : S9 i := Nat.lt_of_lt_of_le h (Nat.pow_le_pow_right (by decide) hn)
/-! ### fractions -/
def rt (q : Rat) : D := .tup [.int q.num, .int (q.den : Int)]
def Sm (n : Nat) (q : Rat) : Prop := q.num.natAbs < 2 ^ n ∧ q.den < 2 ^ n
theorem Sm.mono {m n : Nat} {q : Rat} (h : Sm m q) (hn : m ≤ n) : Sm n q := ⟨Nat.lt_of_lt_of_le h.1 (Nat.pow_le_pow_right (by decide) hn), Nat.lt_of_lt_of_le h.2 (Nat.pow_le_pow_right (by decide) hn)⟩
theorem mkRat_Sm {t : Int} {l n : Nat} (h1 : t.natAbs < 2 ^ n) (h2 : l < 2 ^ n) (hl : 0 < l) : Sm n (mkRat t l) := by
  refine ⟨?_, ?_⟩
  · rw [Rat.num_mkRat, if_neg (by omega), Int.natAbs_ediv_of_dvd]
    · exact Nat.lt_of_le_of_lt (Nat.div_le_self _ _) h1
    · exact Int.natAbs_dvd_natAbs.mp (by rw [Int.natAbs_natCast]; exact Nat.gcd_dvd_right _ _)
  · rw [Rat.den_mkRat, if_neg (by omega)]
    exact Nat.lt_of_le_of_lt (Nat.div_le_self _ _) h2
theorem nmul_lt {a b m n : Nat} (h1 : a < 2 ^ m) (h2 : b < 2 ^ n) : a * b < 2 ^ (m + n) := by
  rw [Nat.pow_add]
  exact Nat.mul_lt_mul_of_lt_of_le h1 (Nat.le_of_lt h2) (Nat.two_pow_pos n)
theorem nadd_lt {a b m : Nat} (h1 : a < 2 ^ m) (h2 : b < 2 ^ m) : a + b < 2 ^ (m + 1) := by
  rw [Nat.pow_succ]
  omega
theorem plus_top {a b : Rat} {m n : Nat} (ha : Sm m a) (hb : Sm n b) : (a.num * b.den + b.num * a.den).natAbs < 2 ^ (m + n + 1) := by
  refine Nat.lt_of_le_of_lt (Int.natAbs_add_le _ _) (nadd_lt ?_ ?_)
  · rw [Int.natAbs_mul, Int.natAbs_natCast]
    exact nmul_lt ha.1 hb.2
  · rw [Int.natAbs_mul, Int.natAbs_natCast, Nat.add_comm]
    exact nmul_lt hb.1 ha.2
theorem Sm.add {a b : Rat} {m n : Nat} (ha : Sm m a) (hb : Sm n b) : Sm (m + n + 1) (a + b) := by
  rw [Rat.add_def']
  refine mkRat_Sm (plus_top ha hb) ?_ (Nat.mul_pos a.den_pos b.den_pos)
  exact Nat.lt_of_lt_of_le (nmul_lt ha.2 hb.2) (Nat.pow_le_pow_right (by decide) (by omega))
theorem Sm.mul {a b : Rat} {m n : Nat} (ha : Sm m a) (hb : Sm n b) : Sm (m + n) (a * b) := by
  rw [Rat.mul_def']
  refine mkRat_Sm ?_ (nmul_lt ha.2 hb.2) (Nat.mul_pos a.den_pos b.den_pos)
  rw [Int.natAbs_mul]
  exact nmul_lt ha.1 hb.1
theorem Sm.s9n {a : Rat} {m : Nat} (ha : Sm m a) (h : m ≤ 9000) : S9 a.num := S9_of ha.1 h
theorem Sm.s9d {a : Rat} {m : Nat} (ha : Sm m a) (h : m ≤ 9000) : S9 (a.den : Int) := S9_of (n := m) (by rw [Int.natAbs_natCast]; exact ha.2) h
/-! ### reading pairs -/
@[simp] theorem idx_rt0 (q : Rat) : idxD (rt q) (.int 0) = ret (.int q.num) := rfl
@[simp] theorem idx_rt1 (q : Rat) : idxD (rt q) (.int 1) = ret (.int (q.den : Int)) := rfl
@[simp] theorem r_gcd (a b : Int) : bi gcdD [.int a, .int b] = ret (.int ((Nat.gcd a.natAbs b.natAbs : Nat) : Int)) := rfl
theorem fit_ret (ds : List D) (m : M D) (h : ds.length ≤ lim) : fit ds m = m := if_pos h
@[simp] theorem fit0 (m : M D) : fit [] m = m := if_pos (by decide)
@[simp] theorem fit1 (a : D) (m : M D) : fit [a] m = m := if_pos (show 1 ≤ lim by decide)
@[simp] theorem fit2 (a b : D) (m : M D) : fit [a, b] m = m := if_pos (show 2 ≤ lim by decide)
@[simp] theorem fit3 (a b c : D) (m : M D) : fit [a, b, c] m = m := if_pos (show 3 ≤ lim by decide)
/-- ratio: in lowest terms -/
theorem ratio_ok {call : Nat → List D → M D} {t : Int} {l : Nat} (hl : 0 < l) (h9 : S9 (l : Int)) : runB (B_ratio call) [some (.int t), some (.int (l : Int)), none] = ret (rt (mkRat t l)) := by
  have hg : 0 < Nat.gcd t.natAbs l := Nat.gcd_pos_of_pos_right _ hl
  have hg9 : S9 ((Nat.gcd t.natAbs l : Nat) : Int) := by
    unfold S9 at *
    rw [Int.natAbs_natCast] at *
    exact Nat.lt_of_le_of_lt (Nat.gcd_le_right _ hl) h9
  have d1 := divOk_S9 (a := t) (Int.natCast_pos.mpr hg) hg9
  have d2 := divOk_S9 (a := (l : Int)) (Int.natCast_pos.mpr hg) hg9
  have e1 : (mkRat t l).num = t / ((Nat.gcd t.natAbs l : Nat) : Int) := by
    rw [Rat.num_mkRat, if_neg (by omega), Nat.gcd_comm]
  have e2 : ((mkRat t l).den : Int) = (l : Int) / ((Nat.gcd t.natAbs l : Nat) : Int) := by
    rw [Rat.den_mkRat, if_neg (by omega), Nat.gcd_comm]
    rfl
  unfold B_ratio rt
  simp [d1, d2, e1, e2]
def IsRatio (call : Nat → List D → M D) (i : Nat) : Prop := ∀ (t : Int) (l : Nat), 0 < l → S9 (l : Int) → call i [.int t, .int (l : Int)] = ret (rt (mkRat t l))
def IsPlus (call : Nat → List D → M D) (i : Nat) : Prop := ∀ (a b : Rat) (m n : Nat), Sm m a → Sm n b → m + n ≤ 8999 → call i [rt a, rt b] = ret (rt (a + b))
def IsTimes (call : Nat → List D → M D) (i : Nat) : Prop := ∀ (a b : Rat) (m n : Nat), Sm m a → Sm n b → m + n ≤ 8999 → call i [rt a, rt b] = ret (rt (a * b))
theorem plus_ok {call : Nat → List D → M D} {f : Nat} (hr : IsRatio call f) {a b : Rat} {m n : Nat} (ha : Sm m a) (hb : Sm n b) (h : m + n ≤ 8999) : runB (B_plus call f) [some (rt a), some (rt b)] = ret (rt (a + b)) := by
  have a1 := mulOk_S9 (ha.s9n (by omega)) (hb.s9d (by omega))
  have a2 := mulOk_S9 (hb.s9n (by omega)) (ha.s9d (by omega))
  have a3 := mulOk_S9 (ha.s9d (by omega)) (hb.s9d (by omega))
  have e := hr (a.num * b.den + b.num * a.den) (a.den * b.den) (Nat.mul_pos a.den_pos b.den_pos) (S9_of (n := m + n) (by rw [Int.natAbs_natCast]; exact nmul_lt ha.2 hb.2) (by omega))
  rw [Int.natCast_mul] at e
  unfold B_plus
  simp [a1, a2, a3, e, Rat.add_def']
theorem times_ok {call : Nat → List D → M D} {f : Nat} (hr : IsRatio call f) {a b : Rat} {m n : Nat} (ha : Sm m a) (hb : Sm n b) (h : m + n ≤ 8999) : runB (B_times call f) [some (rt a), some (rt b)] = ret (rt (a * b)) := by
  have a1 := mulOk_S9 (ha.s9n (by omega)) (hb.s9n (by omega))
  have a3 := mulOk_S9 (ha.s9d (by omega)) (hb.s9d (by omega))
  have e := hr (a.num * b.num) (a.den * b.den) (Nat.mul_pos a.den_pos b.den_pos) (S9_of (n := m + n) (by rw [Int.natAbs_natCast]; exact nmul_lt ha.2 hb.2) (by omega))
  rw [Int.natCast_mul] at e
  unfold B_times
  simp [a1, a3, e, Rat.mul_def']
end L3
set_option Elab.async false
set_option linter.all false
set_option maxRecDepth 100000
set_option maxHeartbeats 4000000
namespace L3
/-! ### loops and comprehensions that only compute -/
theorem chk_ok {α : Type} {ok : G → Prop} (h : ∀ g, ok g) (m : M α) : chk ok m = m := by
  funext g
  unfold chk
  rw [if_pos (h g)]
theorem compA_ret {ok : G → Prop} {gf : GF} {ef : EF} {env : Env3} (hok : ∀ g, ok g) : ∀ {its out acc : List D}, out.length = its.length → (∀ (j : Nat) (d y : D), its[j]? = some d → out[j]? = some y → bnd (gf d env) ef = ret y) → compA ok gf fYes ef env acc its = ret (acc ++ out)
  | [], [], acc, _, _ => by
    unfold compA
    rw [chk_ok hok, List.append_nil]
  | [], _ :: _, _, h, _ => by cases h
  | _ :: _, [], _, h, _ => by cases h
  | d :: its, y :: out, acc, hl, h => by
    unfold compA
    rw [chk_ok hok]
    have h0 := h 0 d y rfl rfl
    have ih := compA_ret (acc := acc ++ [y]) hok (by simpa using hl) fun j d' y' h1 h2 => h (j + 1) d' y' (by simpa using h1) (by simpa using h2)
    have e : (bnd (gf d env) fun e1 => bnd (fYes e1) fun k => if k = true then bnd (ef e1) fun y => compA ok gf fYes ef env (acc ++ [y]) its else compA ok gf fYes ef env acc its) = bnd (bnd (gf d env) ef) fun y => compA ok gf fYes ef env (acc ++ [y]) its := by
      rw [bnd_assoc]
      congr 1
    rw [e, h0, bnd_ret, ih, List.append_assoc]
    rfl
theorem eComp_ret {own : List Nat} {wf : WF} {gf : GF} {ef : EF} {env : Env3} {w : Wk} {out : List D} (hw : wf env = ret w) (hok : ∀ g, w.ok g) (hl : w.its.length ≤ lim) (hlen : out.length = w.its.length)
    (h : ∀ (j : Nat) (d y : D), w.its[j]? = some d → out[j]? = some y → bnd (gf d (wipeE env own)) ef = ret y) : eComp own wf gf fYes ef false env = ret (.lst out) := by
  unfold eComp
  rw [hw, bnd_ret, if_pos hl, compA_ret hok hlen h, noErr_ret, bnd_ret]
  rfl
/-- over the images of a list -/
theorem eComp_map {α : Type} {own : List Nat} {wf : WF} {gf : GF} {ef : EF} {env : Env3} {ok : G → Prop} {xs : List α} {mk out : α → D} (hw : wf env = ret ⟨xs.map mk, ok⟩) (hok : ∀ g, ok g) (hl : xs.length ≤ lim)
    (h : ∀ x ∈ xs, bnd (gf (mk x) (wipeE env own)) ef = ret (out x)) : eComp own wf gf fYes ef false env = ret (.lst (xs.map out)) := by
  refine eComp_ret hw hok (by simpa using hl) (by simp) fun j d y h1 h2 => ?_
  have h1 : (xs.map mk)[j]? = some d := h1
  rw [List.getElem?_map] at h1 h2
  cases q : xs[j]? with
  | none => rw [q] at h1; cases h1
  | some x =>
    rw [q] at h1 h2
    cases h1
    cases h2
    exact h x (List.mem_of_getElem? q)
theorem forL_inv {ok : G → Prop} {gf : GF} {body : SF} (hok : ∀ g, ok g) {Inv : Nat → Env3 → Prop} : ∀ {its : List D} {env : Env3} {j : Nat}, (∀ (i : Nat) (d : D) (env : Env3), its[i]? = some d → Inv (j + i) env → ∃ env', bnd (gf d env) body = ret (.nx env') ∧ Inv (j + i + 1) env') → Inv j env →
    ∃ env', forL ok gf body its env = ret (.nx env') ∧ Inv (j + its.length) env'
  | [], env, j, _, h => ⟨env, by unfold forL; rw [chk_ok hok], h⟩
  | d :: its, env, j, hs, h => by
    obtain ⟨e1, h1, h2⟩ := hs 0 d env rfl h
    obtain ⟨e2, h3, h4⟩ := forL_inv hok (j := j + 1) (its := its) (env := e1) (fun i d' env' hd hi => by
      have := hs (i + 1) d' env' (by simpa using hd) (by have e : j + (i + 1) = j + 1 + i := by omega
                                                         rw [e]; exact hi)
      have e : j + (i + 1) + 1 = j + 1 + i + 1 := by omega
      rw [e] at this
      exact this) h2
    refine ⟨e2, ?_, by have e : j + (its.length + 1) = j + 1 + its.length := by omega
                       rw [List.length_cons, e]; exact h4⟩
    unfold forL
    rw [chk_ok hok]
    refine (bnd_assoc _ _ _).symm.trans ?_
    rw [h1, bnd_ret]
    exact h3
@[simp] theorem wk_lst (ds : List D) : wkD (.lst ds) = ret (free ds) := rfl
@[simp] theorem wk_tup (ds : List D) : wkD (.tup ds) = ret (free ds) := rfl
/-! ### lists of fractions -/
abbrev sumQ (qs : List Rat) : Rat := qs.foldl (· + ·) 0
def rts (qs : List Rat) : List D := qs.map rt
def row (qs : List Rat) : D := .tup (rts qs)
@[simp] theorem rts_len (qs : List Rat) : (rts qs).length = qs.length := List.length_map _
@[simp] theorem wk_row (qs : List Rat) : wkD (row qs) = ret (free (rts qs)) := rfl
@[simp] theorem seq_row (qs : List Rat) : seqD (row qs) = ret (free (rts qs)) := rfl
theorem tup_rts (qs : List Rat) : D.tup (rts qs) = row qs := rfl
def SmL (n : Nat) (qs : List Rat) : Prop := ∀ q ∈ qs, Sm n q
theorem Sm.zero (n : Nat) : Sm (n + 1) 0 := ⟨by show 0 < 2 ^ (n + 1); exact Nat.two_pow_pos _, by show 1 < 2 ^ (n + 1); exact Nat.one_lt_two_pow (by omega)⟩
theorem sum_take {qs : List Rat} {j : Nat} {q : Rat} (h : qs[j]? = some q) : sumQ (qs.take (j + 1)) = sumQ (qs.take j) + q := by
  unfold sumQ
  rw [List.take_add_one, h, List.foldl_append]
  rfl
theorem sum_Sm {n : Nat} {qs : List Rat} (h : SmL n qs) : ∀ j, Sm (j * (n + 1) + 1) (sumQ (qs.take j))
  | 0 => by
    rw [List.take_zero]
    exact Sm.zero _
  | j + 1 => by
    cases q : qs[j]? with
    | none =>
      have hj : qs.length ≤ j := List.getElem?_eq_none_iff.mp q
      have := sum_Sm h j
      rw [List.take_of_length_le hj] at this
      rw [List.take_of_length_le (by omega)]
      exact this.mono (by rw [Nat.succ_mul]; omega)
    | some x =>
      rw [sum_take q]
      refine ((sum_Sm h j).add (h x (List.mem_of_getElem? q))).mono ?_
      rw [Nat.succ_mul]
      omega
def IsSum (call : Nat → List D → M D) (i : Nat) : Prop := ∀ (qs : List Rat) (n : Nat), SmL n qs → (qs.length + 1) * (n + 1) ≤ 8990 → call i [.lst (rts qs)] = ret (rt (sumQ qs))
theorem sum_ok {call : Nat → List D → M D} {f : Nat} (hp : IsPlus call f) {qs : List Rat} {n : Nat} (h : SmL n qs) (hb : (qs.length + 1) * (n + 1) ≤ 8990) : runB (B_sum_of call f) [some (.lst (rts qs)), none, none] = ret (rt (sumQ qs)) := by
  obtain ⟨e2, h1, x, h2⟩ := forL_inv (ok := fun _ => True) (gf := gNm 2) (body := sSeq (sAs (eCB (call f) (aCons (eVar 1) (aCons (eVar 2) aNil))) (gNm 1)) sNx) (fun _ => trivial)
    (Inv := fun j env => ∃ x, env = [some (.lst (rts qs)), some (rt (sumQ (qs.take j))), x]) (its := rts qs) (env := [some (.lst (rts qs)), some (.tup [.int 0, .int 1]), none]) (j := 0) (fun i d env hd hi => by
      obtain ⟨x, rfl⟩ := hi
      rw [Nat.zero_add] at *
      have hd : (qs.map rt)[i]? = some d := hd
      rw [List.getElem?_map] at hd
      cases q : qs[i]? with
      | none => rw [q] at hd; cases hd
      | some y =>
        rw [q] at hd
        cases hd
        have hi : i < qs.length := (List.getElem?_eq_some_iff.mp q).1
        have hbi : i * (n + 1) + 1 + n ≤ 8999 := by
          have : (i + 1) * (n + 1) ≤ (qs.length + 1) * (n + 1) := Nat.mul_le_mul_right _ (by omega)
          rw [Nat.succ_mul] at this
          omega
        have e := hp (sumQ (qs.take i)) y _ _ (sum_Sm h i) (h y (List.mem_of_getElem? q)) hbi
        refine ⟨[some (.lst (rts qs)), some (rt (sumQ (qs.take (i + 1)))), some (rt y)], ?_, _, rfl⟩
        rw [sum_take q]
        simp [e]) ⟨none, rfl⟩
  rw [Nat.zero_add, rts_len] at h2
  rw [List.take_of_length_le (Nat.le_refl _)] at h2
  subst h2
  unfold B_sum_of
  simp only [r_runB, r_sSeq, r_sAs, r_eC, bnd_ret, r_gNm, r_bnd_bnd]
  have e3 : sFor (wVal (eVar 0)) (gNm 2) (sSeq (sAs (eCB (call f) (aCons (eVar 1) (aCons (eVar 2) aNil))) (gNm 1)) sNx) [some (.lst (rts qs)), some (.tup [.int 0, .int 1]), none] = ret (.nx [some (.lst (rts qs)), some (rt (sumQ qs)), x]) := by
    unfold sFor
    simp only [r_wVal, r_eVar, List.getElem?_cons_zero, bnd_ret, wk_lst]
    exact h1
  simp [e3]
abbrev prodQ (a b : List Rat) : List Rat := List.zipWith (· * ·) a b
abbrev dotQ (a b : List Rat) : Rat := sumQ (prodQ a b)
theorem mem_zipWith {α β γ : Type} {f : α → β → γ} : ∀ {a : List α} {b : List β} {z : γ}, z ∈ List.zipWith f a b → ∃ x y, x ∈ a ∧ y ∈ b ∧ z = f x y
  | [], _, _, h => by simp at h
  | _ :: _, [], _, h => by simp at h
  | x :: a, y :: b, z, h => by
    rw [List.zipWith_cons_cons] at h
    rcases List.mem_cons.mp h with h | h
    · exact ⟨x, y, List.mem_cons_self .., List.mem_cons_self .., h⟩
    · obtain ⟨x', y', h1, h2, h3⟩ := mem_zipWith h
      exact ⟨x', y', List.mem_cons_of_mem _ h1, List.mem_cons_of_mem _ h2, h3⟩
theorem prod_Sm {a b : List Rat} {m n : Nat} (ha : SmL m a) (hb : SmL n b) : SmL (m + n) (prodQ a b) := fun z hz => by
  obtain ⟨x, y, h1, h2, rfl⟩ := mem_zipWith hz
  exact (ha x h1).mul (hb y h2)
@[simp] theorem seq_tup (ds : List D) : seqD (.tup ds) = ret (free ds) := rfl
@[simp] theorem seq_lst (ds : List D) : seqD (.lst ds) = ret (free ds) := rfl
/-- [times(one, other) for one, other in zip(a, b)] -/
theorem comp_times {call : Nat → List D → M D} {f : Nat} (ht : IsTimes call f) {a b : List Rat} {m n : Nat} (ha : SmL m a) (hb : SmL n b) (h : m + n ≤ 8999) (hl : a.length ≤ lim) :
    eComp [2, 3] (wZip (aCons (eVar 0) (aCons (eVar 1) aNil))) (gTp 2 (gsCons (gNm 2) (gsCons (gNm 3) gsNil))) fYes (eCB (call f) (aCons (eVar 2) (aCons (eVar 3) aNil))) false [some (row a), some (row b), none, none] = ret (.lst (rts (prodQ a b))) := by
  refine eComp_ret (w := ⟨(rts a).zipWith (fun p q => D.tup [p, q]) (rts b), fun _ => True ∧ True⟩) (by simp [zipD, free]) (fun _ => ⟨trivial, trivial⟩) ?_ ?_ fun j d y h1 h2 => ?_
  · show ((rts a).zipWith (fun p q => D.tup [p, q]) (rts b)).length ≤ lim
    rw [List.length_zipWith, rts_len]
    omega
  · show (rts (prodQ a b)).length = ((rts a).zipWith (fun p q => D.tup [p, q]) (rts b)).length
    simp
  · have h1 : ((rts a).zipWith (fun p q => D.tup [p, q]) (rts b))[j]? = some d := h1
    obtain ⟨x, z, hx, hz, rfl⟩ := zip_get _ h1
    have hx : (a.map rt)[j]? = some x := hx
    have hz : (b.map rt)[j]? = some z := hz
    rw [List.getElem?_map] at hx hz
    cases qa : a[j]? with
    | none => rw [qa] at hx; cases hx
    | some p =>
      cases qb : b[j]? with
      | none => rw [qb] at hz; cases hz
      | some q =>
        rw [qa] at hx
        rw [qb] at hz
        cases hx
        cases hz
        have h2 : ((prodQ a b).map rt)[j]? = some y := h2
        rw [List.getElem?_map, List.getElem?_zipWith, qa, qb] at h2
        cases h2
        have e := ht p q m n (ha p (List.mem_of_getElem? qa)) (hb q (List.mem_of_getElem? qb)) h
        simp [wipeE, e]
def IsDot (call : Nat → List D → M D) (i : Nat) : Prop := ∀ (a b : List Rat) (m n : Nat), SmL m a → SmL n b → (a.length + 1) * (m + n + 1) ≤ 8990 → call i [row a, row b] = ret (rt (dotQ a b))
def IsProds (call : Nat → List D → M D) (i : Nat) : Prop := ∀ (a b : List Rat) (m n : Nat), SmL m a → SmL n b → m + n ≤ 8999 → a.length ≤ lim → call i [row a, row b] = ret (row (prodQ a b))
theorem dot_ok {call : Nat → List D → M D} {fs ft : Nat} (hs : IsSum call fs) (ht : IsTimes call ft) {a b : List Rat} {m n : Nat} (ha : SmL m a) (hb : SmL n b) (h : (a.length + 1) * (m + n + 1) ≤ 8990) :
    runB (B_dot call fs ft) [some (row a), some (row b), none, none] = ret (rt (dotQ a b)) := by
  have h0 : a.length + 1 ≤ 8990 := Nat.le_trans (Nat.le_mul_of_pos_right _ (by omega)) h
  have h00 : m + n + 1 ≤ 8990 := Nat.le_trans (Nat.le_mul_of_pos_left _ (by omega)) h
  have hlim : (8990 : Nat) ≤ lim := by decide
  have e1 := comp_times ht ha hb (by omega) (by omega)
  have e2 := hs (prodQ a b) (m + n) (prod_Sm ha hb) (by
    refine Nat.le_trans (Nat.mul_le_mul_right _ ?_) h
    rw [List.length_zipWith]
    omega)
  unfold B_dot
  simp [e1, e2]
@[simp] theorem r_tupL (ds : List D) : un tupD [.lst ds] = ret (.tup ds) := rfl
@[simp] theorem r_tupT (ds : List D) : un tupD [.tup ds] = ret (.tup ds) := rfl
theorem prods_ok {call : Nat → List D → M D} {ft : Nat} (ht : IsTimes call ft) {a b : List Rat} {m n : Nat} (ha : SmL m a) (hb : SmL n b) (h : m + n ≤ 8999) (hl : a.length ≤ lim) :
    runB (B_products call ft) [some (row a), some (row b), none, none] = ret (row (prodQ a b)) := by
  have e1 := comp_times ht ha hb h hl
  unfold B_products
  simp only [r_runB, r_sSeq, r_sRt, r_eCB, r_aCons, r_aNil, e1, bnd_ret, r_bnd_bnd, r_tupL, tup_rts]
end L3
set_option Elab.async false
set_option linter.all false
set_option maxRecDepth 100000
set_option maxHeartbeats 4000000
namespace L3
open PySem
/-! ### equality of fractions -/
theorem pd_rt (q : Rat) : toPD (rt q) = some (.tuple [.int q.num, .int (q.den : Int)]) := rfl
theorem eqO_rt (a b : Rat) : eqO (rt a) (rt b) = some (decide (a = b)) := by
  unfold eqO
  rw [pd_rt, pd_rt]
  have s : ∀ q : Rat, SeqAt.shaped (.tuple [.int q.num, .int (q.den : Int)]) = true := fun q => rfl
  simp only [s, and_self, if_true]
  congr 1
  simp only [PyData.eqv, PyData.eqvAll]
  rw [Bool.eq_iff_iff]
  simp only [Bool.and_true, Bool.and_eq_true, beq_iff_eq, decide_eq_true_eq]
  constructor
  · rintro ⟨h1, h2⟩
    exact Rat.ext h1 (by exact_mod_cast h2)
  · rintro rfl
    exact ⟨rfl, rfl⟩
theorem deref_rt (q : Rat) : deref (rt q) = ret (rt q) := rfl
@[simp] theorem eq_rt (a b : Rat) : eqD (rt a) (rt b) = ret (.bl (decide (a = b))) := by
  unfold eqD
  simp only [deref_rt, bnd_ret, eqO_rt]
theorem zero_rt : D.tup [.int 0, .int 1] = rt 0 := rfl
theorem one_rt : D.tup [.int 1, .int 1] = rt 1 := rfl
/-! ### truth of all, any -/
theorem toBools_map {α : Type} (f : α → Bool) : ∀ xs : List α, toBools (xs.map fun x => D.bl (f x)) = some (xs.map f)
  | [] => rfl
  | x :: xs => by
    have ih := toBools_map f xs
    simp only [List.map_cons, toBools, ih]
    rfl
theorem all_map {α : Type} (f : α → Bool) (xs : List α) : un allD [.lst (xs.map fun x => D.bl (f x))] = ret (.bl (xs.all f)) := by
  unfold un allD rd1
  dsimp only
  rw [deref_lst, bnd_ret]
  show ofO ((toBools (xs.map fun x => D.bl (f x))).map fun bs => D.bl (bs.all id)) = _
  rw [toBools_map]
  simp [ofO]
theorem any_map {α : Type} (f : α → Bool) (xs : List α) : un anyD [.lst (xs.map fun x => D.bl (f x))] = ret (.bl (xs.any f)) := by
  unfold un anyD rd1
  dsimp only
  rw [deref_lst, bnd_ret]
  show ofO ((toBools (xs.map fun x => D.bl (f x))).map fun bs => D.bl (bs.any id)) = _
  rw [toBools_map]
  simp [ofO]
@[simp] theorem tru_bl (b : Bool) : truD (.bl b) = ret b := rfl
@[simp] theorem len_tup (ds : List D) : un lenD [.tup ds] = ret (.int ds.length) := rfl
@[simp] theorem len_lst (ds : List D) : un lenD [.lst ds] = ret (.int ds.length) := rfl
@[simp] theorem len_row (qs : List Rat) : un lenD [row qs] = ret (.int qs.length) := by
  show ret (D.int ((rts qs).length)) = _
  rw [rts_len]
@[simp] theorem isi_int_int (i : Int) : isiD "int" (.int i) = ret (.bl true) := rfl
@[simp] theorem isi_bool_int (i : Int) : isiD "bool" (.int i) = ret (.bl false) := rfl
@[simp] theorem isi_tup (ds : List D) : isiD "tuple" (.tup ds) = ret (.bl true) := rfl
theorem eComp_all {α : Type} {own : List Nat} {wf : WF} {gf : GF} {ef : EF} {env : Env3} {ok : G → Prop} {xs : List α} {mk : α → D} {f : α → Bool} (hw : wf env = ret ⟨xs.map mk, ok⟩) (hok : ∀ g, ok g) (hl : xs.length ≤ lim)
    (h : ∀ x ∈ xs, bnd (gf (mk x) (wipeE env own)) ef = ret (.bl (f x))) : eCB (un allD) (aCons (eComp own wf gf fYes ef false) aNil) env = ret (.bl (xs.all f)) := by
  have e := eComp_map (own := own) (gf := gf) (ef := ef) (out := fun x => D.bl (f x)) hw hok hl h
  simp only [r_eCB, r_aCons, r_aNil, e, bnd_ret, r_bnd_bnd, all_map]
/-! ### the predicates where they hold -/
section
variable {call call' : Nat → List D → M D} {f1 f2 f3 f4 : Nat}
def IsZeroP (call : Nat → List D → M D) (i : Nat) : Prop := ∀ qs : List Rat, qs.length ≤ lim → call i [row qs] = ret (.bl (qs.all fun q => decide (q = 0)))
theorem are_zero_ok {qs : List Rat} (h : qs.length ≤ lim) : runB (B_are_zero call) [some (row qs), none] = ret (.bl (qs.all fun q => decide (q = 0))) := by
  have e : eCB (un allD) (aCons (eComp [1] (wVal (eVar 0)) (gNm 1) fYes (eBin eqD (eVar 1) (eC (.tup [.int 0, .int 1]))) false) aNil) [some (row qs), none] = ret (.bl (qs.all fun q => decide (q = 0))) :=
    eComp_all (mk := rt) (ok := fun _ => True) (by simp [free, rts]) (fun _ => trivial) h fun q _ => by simp [wipeE, zero_rt]
  unfold B_are_zero
  simp only [r_runB, r_sSeq, r_sRt, e, bnd_ret, r_bnd_bnd]
def IsWholeT (call : Nat → List D → M D) (i : Nat) : Prop := ∀ n : Int, call i [.int n] = ret (.bl true)
theorem is_whole_ok (n : Int) : runB (B_is_whole call) [some (.int n)] = ret (.bl true) := by
  unfold B_is_whole
  simp
def IsUpTo (call : Nat → List D → M D) (i : Nat) : Prop := ∀ (ds : List D) (lo hi : Int), call i [.tup ds, .int lo, .int hi] = ret (.bl (decide (lo ≤ ds.length) && decide ((ds.length : Int) ≤ hi)))
theorem is_tuple_up_to_ok (ds : List D) (lo hi : Int) : runB (B_is_tuple_up_to call) [some (.tup ds), some (.int lo), some (.int hi)] = ret (.bl (decide (lo ≤ ds.length) && decide ((ds.length : Int) ≤ hi))) := by
  unfold B_is_tuple_up_to
  by_cases h : lo ≤ ds.length <;> simp [h]
def IsTupOf (call : Nat → List D → M D) (i : Nat) : Prop := ∀ (ds : List D) (n : Int), call i [.tup ds, .int n] = ret (.bl (decide (n ≤ ds.length) && decide ((ds.length : Int) ≤ n)))
theorem is_tuple_of_ok (h : IsUpTo call f1) (ds : List D) (n : Int) : runB (B_is_tuple_of call f1) [some (.tup ds), some (.int n)] = ret (.bl (decide (n ≤ ds.length) && decide ((ds.length : Int) ≤ n))) := by
  have e := h ds n n
  unfold B_is_tuple_of
  simp [e]
def IsAllT (call call' : Nat → List D → M D) (i : Nat) : Prop := ∀ (ds : List D) (n : Int) (j : Nat), (ds.length : Int) = n → ds.length ≤ lim → (∀ d ∈ ds, call' j [d] = ret (.bl true)) → call i [.tup ds, .int n, .fn j] = ret (.bl true)
theorem are_all_ok (h : IsTupOf call f1) {ds : List D} {n : Int} {j : Nat} (hn : (ds.length : Int) = n) (hl : ds.length ≤ lim) (ha : ∀ d ∈ ds, call j [d] = ret (.bl true)) : runB (B_are_all call f1) [some (.tup ds), some (.int n), some (.fn j), none] = ret (.bl true) := by
  have e := h ds n
  have e2 : eCB (un allD) (aCons (eComp [3] (wVal (eVar 0)) (gNm 3) fYes (eCV call (eVar 2) (aCons (eVar 3) aNil)) false) aNil) [some (.tup ds), some (.int n), some (.fn j), none] = ret (.bl (ds.all fun _ => true)) :=
    eComp_all (mk := id) (ok := fun _ => True) (by simp [free]) (fun _ => trivial) hl fun d hd => by
      have := ha d hd
      simp [wipeE, this]
  have e3 : (decide (n ≤ ds.length) && decide ((ds.length : Int) ≤ n)) = true := by
    rw [Bool.and_eq_true, decide_eq_true_eq, decide_eq_true_eq]
    omega
  rw [e3] at e
  have e4 : (ds.all fun _ => true) = true := by simp
  rw [e4] at e2
  unfold B_are_all
  simp only [r_runB, r_sSeq, r_sRt, r_eAnd, e2]
  simp [e]
def IsRatT (call : Nat → List D → M D) (i : Nat) : Prop := ∀ q : Rat, call i [rt q] = ret (.bl true)
@[simp] theorem eq_int (i j : Int) : eqD (.int i) (.int j) = ret (.bl (i == j)) := rfl
theorem is_ratio_ok (ha : IsAllT call call' f1) (hw : IsWholeT call' f2) (q : Rat) : runB (B_is_ratio call f1 f2) [some (rt q)] = ret (.bl true) := by
  have e : call f1 [rt q, .int 2, .fn f2] = ret (.bl true) := ha [.int q.num, .int (q.den : Int)] 2 f2 rfl (show 2 ≤ lim by decide) fun d hd => by
    rcases List.mem_cons.mp hd with rfl | hd
    · exact hw _
    · rcases List.mem_cons.mp hd with rfl | hd
      · exact hw _
      · cases hd
  have hp := q.den_pos
  have hr : q.num.natAbs.gcd q.den = 1 := q.reduced
  unfold B_is_ratio
  simp [e, hp, hr]
def IsContT (call : Nat → List D → M D) (i : Nat) : Prop := ∀ q : Rat, 0 ≤ q → call i [rt q] = ret (.bl true)
theorem is_content_ok (h : IsRatT call f1) {q : Rat} (h0 : 0 ≤ q) : runB (B_is_content call f1) [some (rt q)] = ret (.bl true) := by
  have e := h q
  have hq : 0 ≤ q.num := Rat.num_nonneg.mpr h0
  unfold B_is_content
  simp [e, hq]
def IsShareT (call : Nat → List D → M D) (i : Nat) : Prop := ∀ q : Rat, 0 ≤ q → q ≤ 1 → call i [rt q] = ret (.bl true)
theorem is_share_ok (h : IsContT call f1) {q : Rat} (h0 : 0 ≤ q) (h1 : q ≤ 1) : runB (B_is_share call f1) [some (rt q)] = ret (.bl true) := by
  have e := h q h0
  have hq : q.num ≤ (q.den : Int) := by
    have := (Rat.le_iff q 1).mp h1
    simpa using this
  unfold B_is_share
  simp [e, hq]
def NN (qs : List Rat) : Prop := ∀ q ∈ qs, 0 ≤ q
def SH (qs : List Rat) : Prop := ∀ q ∈ qs, 0 ≤ q ∧ q ≤ 1
def NZ (qs : List Rat) : Prop := ∃ q ∈ qs, q ≠ 0
theorem mem_rts {qs : List Rat} {d : D} (h : d ∈ rts qs) : ∃ q ∈ qs, d = rt q := by
  obtain ⟨q, h1, h2⟩ := List.mem_map.mp h
  exact ⟨q, h1, h2.symm⟩
def IsLightT (call : Nat → List D → M D) (i : Nat) : Prop := ∀ (qs : List Rat), NN qs → qs.length ≤ lim → call i [row qs, .int qs.length] = ret (.bl true)
theorem is_light_of_ok (ha : IsAllT call call' f1) (hc : IsContT call' f2) {qs : List Rat} (h : NN qs) (hl : qs.length ≤ lim) : runB (B_is_light_of call f1 f2) [some (row qs), some (.int qs.length)] = ret (.bl true) := by
  have e : call f1 [row qs, .int qs.length, .fn f2] = ret (.bl true) := ha (rts qs) qs.length f2 (by rw [rts_len]) (by rw [rts_len]; exact hl) fun d hd => by
    obtain ⟨q, hq, rfl⟩ := mem_rts hd
    exact hc q (h q hq)
  unfold B_is_light_of
  simp [e]
def IsSurfT (call : Nat → List D → M D) (i : Nat) : Prop := ∀ (qs : List Rat), SH qs → qs.length ≤ lim → call i [row qs, .int qs.length] = ret (.bl true)
theorem is_surface_of_ok (ha : IsAllT call call' f1) (hc : IsShareT call' f2) {qs : List Rat} (h : SH qs) (hl : qs.length ≤ lim) : runB (B_is_surface_of call f1 f2) [some (row qs), some (.int qs.length)] = ret (.bl true) := by
  have e : call f1 [row qs, .int qs.length, .fn f2] = ret (.bl true) := ha (rts qs) qs.length f2 (by rw [rts_len]) (by rw [rts_len]; exact hl) fun d hd => by
    obtain ⟨q, hq, rfl⟩ := mem_rts hd
    exact hc q (h q hq).1 (h q hq).2
  unfold B_is_surface_of
  simp [e]
theorem nz_all {qs : List Rat} (h : NZ qs) : (qs.all fun q => decide (q = 0)) = false := by
  obtain ⟨q, h1, h2⟩ := h
  rw [List.all_eq_false]
  exact ⟨q, h1, by simpa using h2⟩
def IsLampT (call : Nat → List D → M D) (i : Nat) : Prop := ∀ (qs : List Rat), NN qs → NZ qs → qs.length ≤ lim → call i [row qs, .int qs.length] = ret (.bl true)
theorem is_lamp_of_ok (h1 : IsLightT call f1) (h2 : IsZeroP call f2) {qs : List Rat} (h : NN qs) (hz : NZ qs) (hl : qs.length ≤ lim) : runB (B_is_lamp_of call f1 f2) [some (row qs), some (.int qs.length)] = ret (.bl true) := by
  have e1 := h1 qs h hl
  have e2 := h2 qs hl
  rw [nz_all hz] at e2
  unfold B_is_lamp_of
  simp [e1, e2]
/-! eyes -/
def eyeD (rows : List (List Rat)) : D := .tup (rows.map row)
/-- an eye of a width -/
def Eye (w : Nat) (rows : List (List Rat)) : Prop := 1 ≤ rows.length ∧ rows.length ≤ 4 ∧ ∀ r ∈ rows, r.length = w ∧ NN r ∧ NZ r
def IsEyeOfT (call : Nat → List D → M D) (i : Nat) : Prop := ∀ (w : Nat) (rows : List (List Rat)), w ≤ lim → Eye w rows → call i [eyeD rows, .int w] = ret (.bl true)
theorem four_lim {n : Nat} (h : n ≤ 4) : n ≤ lim := Nat.le_trans h (by decide)
theorem is_eye_of_ok (h1 : IsUpTo call f1) (h2 : IsLampT call f2) {w : Nat} {rows : List (List Rat)} (hw : w ≤ lim) (h : Eye w rows) : runB (B_is_eye_of call f1 f2) [some (eyeD rows), some (.int w), none] = ret (.bl true) := by
  obtain ⟨ha, hb, hc⟩ := h
  have e1 : call f1 [eyeD rows, .int 1, .int 4] = ret (.bl true) := by
    have := h1 (rows.map row) 1 4
    rw [List.length_map] at this
    have e : (decide ((1 : Int) ≤ rows.length) && decide ((rows.length : Int) ≤ 4)) = true := by
      rw [Bool.and_eq_true, decide_eq_true_eq, decide_eq_true_eq]
      omega
    rw [e] at this
    exact this
  have e2 : eCB (un allD) (aCons (eComp [2] (wVal (eVar 0)) (gNm 2) fYes (eCB (call f2) (aCons (eVar 2) (aCons (eVar 1) aNil))) false) aNil) [some (eyeD rows), some (.int w), none] = ret (.bl (rows.all fun _ => true)) :=
    eComp_all (mk := row) (ok := fun _ => True) (by simp [free, eyeD]) (fun _ => trivial) (four_lim hb) fun r hr => by
      obtain ⟨q1, q2, q3⟩ := hc r hr
      have := h2 r q2 q3 (by rw [q1]; exact hw)
      rw [q1] at this
      simp [wipeE, this]
  have e4 : (rows.all fun _ => true) = true := by simp
  rw [e4] at e2
  unfold B_is_eye_of
  simp only [r_runB, r_sSeq, r_sRt, r_eAnd, e2]
  simp [e1]
def IsWidthIn (call : Nat → List D → M D) (i : Nat) : Prop := ∀ (ds : List D), 1 ≤ ds.length → ds.length ≤ 6 → call i [.tup ds] = ret (.int ds.length)
theorem width_in_ok (h1 : IsUpTo call f1) {ds : List D} (ha : 1 ≤ ds.length) (hb : ds.length ≤ 6) : runB (B_width_in call f1) [some (.tup ds)] = ret (.int ds.length) := by
  have e1 := h1 ds 1 6
  have e : (decide ((1 : Int) ≤ ds.length) && decide ((ds.length : Int) ≤ 6)) = true := by
    rw [Bool.and_eq_true, decide_eq_true_eq, decide_eq_true_eq]
    omega
  rw [e] at e1
  unfold B_width_in
  simp [e1]
def IsAnyLightT (call : Nat → List D → M D) (i : Nat) : Prop := ∀ (qs : List Rat), NN qs → 1 ≤ qs.length → qs.length ≤ 6 → call i [row qs] = ret (.bl true)
theorem width_row (h : IsWidthIn call f1) {qs : List Rat} (ha : 1 ≤ qs.length) (hb : qs.length ≤ 6) : call f1 [row qs] = ret (.int qs.length) := by
  have := h (rts qs) (by rw [rts_len]; exact ha) (by rw [rts_len]; exact hb)
  rw [rts_len] at this
  exact this
theorem six_lim {n : Nat} (h : n ≤ 6) : n ≤ lim := Nat.le_trans h (by decide)
theorem is_any_light_ok (h1 : IsWidthIn call f1) (h2 : IsLightT call f2) {qs : List Rat} (h : NN qs) (ha : 1 ≤ qs.length) (hb : qs.length ≤ 6) : runB (B_is_any_light call f1 f2) [some (row qs)] = ret (.bl true) := by
  have e1 := width_row h1 ha hb
  have e2 := h2 qs h (six_lim hb)
  have e3 : (0 : Int) < qs.length := by omega
  have e4 : qs.length ≠ 0 := by omega
  have e5 : 0 < qs.length := by omega
  unfold B_is_any_light
  simp [e1, e2, e3, e4, e5]
def IsAnyLampT (call : Nat → List D → M D) (i : Nat) : Prop := ∀ (qs : List Rat), NN qs → NZ qs → 1 ≤ qs.length → qs.length ≤ 6 → call i [row qs] = ret (.bl true)
theorem is_any_lamp_ok (h1 : IsAnyLightT call f1) (h2 : IsZeroP call f2) {qs : List Rat} (h : NN qs) (hz : NZ qs) (ha : 1 ≤ qs.length) (hb : qs.length ≤ 6) : runB (B_is_any_lamp call f1 f2) [some (row qs)] = ret (.bl true) := by
  have e1 := h1 qs h ha hb
  have e2 := h2 qs (six_lim hb)
  rw [nz_all hz] at e2
  unfold B_is_any_lamp
  simp [e1, e2]
end
end L3
set_option Elab.async false
set_option linter.all false
set_option maxRecDepth 100000
set_option maxHeartbeats 4000000
namespace L3
open PySem
section
variable {call : Nat → List D → M D} {f1 f2 f3 f4 f5 : Nat}
theorem atI_nat {α : Type} {ds : List α} {i : Nat} {d : α} (h : ds[i]? = some d) : L2.atI ds (i : Int) = some d := by
  have hi := (List.getElem?_eq_some_iff.mp h).1
  have e : L2.ixN ds.length (i : Int) = some i := by
    unfold L2.ixN
    rw [if_pos (by omega), if_pos (by omega)]
    simp
  unfold L2.atI
  rw [e]
  exact h
theorem idx_tup {ds : List D} {i : Nat} {d : D} (h : ds[i]? = some d) : idxD (.tup ds) (.int i) = ret d := by
  unfold idxD
  simp only [deref_tup, bnd_ret]
  unfold idxO itemsO
  simp only [atI_nat h]
  rfl
theorem idx_eye0 {r : List Rat} {rows : List (List Rat)} : idxD (eyeD (r :: rows)) (.int 0) = ret (row r) := idx_tup (ds := (r :: rows).map row) (i := 0) rfl
def IsAnyEyeT (call : Nat → List D → M D) (i : Nat) : Prop := ∀ (w : Nat) (rows : List (List Rat)), 1 ≤ w → w ≤ 6 → Eye w rows → call i [eyeD rows] = ret (.bl true)
theorem eye_up (h1 : IsUpTo call f1) {rows : List (List Rat)} (ha : 1 ≤ rows.length) (hb : rows.length ≤ 4) : call f1 [eyeD rows, .int 1, .int 4] = ret (.bl true) := by
  have := h1 (rows.map row) 1 4
  rw [List.length_map] at this
  have e : (decide ((1 : Int) ≤ rows.length) && decide ((rows.length : Int) ≤ 4)) = true := by
    rw [Bool.and_eq_true, decide_eq_true_eq, decide_eq_true_eq]
    omega
  rw [e] at this
  exact this
theorem is_any_eye_ok (h1 : IsUpTo call f1) (h2 : IsWidthIn call f2) (h3 : IsEyeOfT call f3) {w : Nat} {rows : List (List Rat)} (ha : 1 ≤ w) (hb : w ≤ 6) (h : Eye w rows) : runB (B_is_any_eye call f1 f2 f3) [some (eyeD rows)] = ret (.bl true) := by
  have e1 := eye_up h1 h.1 h.2.1
  have e3 := h3 w rows (six_lim hb) h
  cases rows with
  | nil => exact absurd h.1 (by decide)
  | cons r rows =>
    obtain ⟨q1, q2, q3⟩ := h.2.2 r (List.mem_cons_self ..)
    have e2 := width_row h2 (qs := r) (by omega) (by omega)
    have e4 : ((r.length : Int) == 0) = false := by
      rw [beq_eq_false_iff_ne]
      omega
    have e5 : r ≠ [] := fun z => by
      rw [z] at q1
      simp at q1
      omega
    rw [← q1] at e3
    unfold B_is_any_eye
    simp [e1, e2, e3, idx_eye0, e4, e5]
def IsNone1 (P : D → Prop) (call : Nat → List D → M D) (i : Nat) : Prop := ∀ d, P d → call i [d] = ret .non
def IsCheckEye (call : Nat → List D → M D) (i : Nat) : Prop := ∀ (w : Nat) (rows : List (List Rat)), 1 ≤ w → w ≤ 6 → Eye w rows → call i [eyeD rows] = ret .non
theorem check_eye_ok (h : IsAnyEyeT call f1) {w : Nat} {rows : List (List Rat)} (ha : 1 ≤ w) (hb : w ≤ 6) (he : Eye w rows) : runB (B_check_eye call f1) [some (eyeD rows)] = ret .non := by
  have e := h w rows ha hb he
  unfold B_check_eye
  simp [e]
def IsCheckLight (call : Nat → List D → M D) (i : Nat) : Prop := ∀ (qs : List Rat), NN qs → qs.length ≤ lim → call i [row qs, .int qs.length] = ret .non
theorem check_light_ok (h : IsLightT call f1) {qs : List Rat} (hn : NN qs) (hl : qs.length ≤ lim) : runB (B_check_light call f1) [some (row qs), some (.int qs.length)] = ret .non := by
  have e := h qs hn hl
  unfold B_check_light
  simp [e]
def IsCheckAnyLamp (call : Nat → List D → M D) (i : Nat) : Prop := ∀ (qs : List Rat), NN qs → NZ qs → 1 ≤ qs.length → qs.length ≤ 6 → call i [row qs] = ret .non
theorem check_any_lamp_ok (h : IsAnyLampT call f1) {qs : List Rat} (hn : NN qs) (hz : NZ qs) (ha : 1 ≤ qs.length) (hb : qs.length ≤ 6) : runB (B_check_any_lamp call f1) [some (row qs)] = ret .non := by
  have e := h qs hn hz ha hb
  unfold B_check_any_lamp
  simp [e]
def IsCheckLamp (call : Nat → List D → M D) (i : Nat) : Prop := ∀ (qs : List Rat), NN qs → NZ qs → qs.length ≤ lim → call i [row qs, .int qs.length] = ret .non
theorem check_lamp_ok (h : IsLampT call f1) {qs : List Rat} (hn : NN qs) (hz : NZ qs) (hl : qs.length ≤ lim) : runB (B_check_lamp call f1) [some (row qs), some (.int qs.length)] = ret .non := by
  have e := h qs hn hz hl
  unfold B_check_lamp
  simp [e]
def IsCheckSurf (call : Nat → List D → M D) (i : Nat) : Prop := ∀ (qs : List Rat), SH qs → qs.length ≤ lim → call i [row qs, .int qs.length] = ret .non
theorem check_surface_ok (h : IsSurfT call f1) {qs : List Rat} (hn : SH qs) (hl : qs.length ≤ lim) : runB (B_check_surface call f1) [some (row qs), some (.int qs.length)] = ret .non := by
  have e := h qs hn hl
  unfold B_check_surface
  simp [e]
def IsWidthOf (call : Nat → List D → M D) (i : Nat) : Prop := ∀ (w : Nat) (rows : List (List Rat)), Eye w rows → call i [eyeD rows] = ret (.int w)
theorem width_of_ok {w : Nat} {rows : List (List Rat)} (h : Eye w rows) : runB (B_width_of call) [some (eyeD rows)] = ret (.int w) := by
  cases rows with
  | nil => exact absurd h.1 (by decide)
  | cons r rows =>
    obtain ⟨q1, _, _⟩ := h.2.2 r (List.mem_cons_self ..)
    unfold B_width_of
    simp [idx_eye0, q1]
/-! looks -/
abbrev lookQ (rows : List (List Rat)) (light : List Rat) : List Rat := rows.map fun r => dotQ r light
def IsLookBy (call : Nat → List D → M D) (i : Nat) : Prop := ∀ (rows : List (List Rat)) (light : List Rat) (m n w : Nat), (∀ r ∈ rows, SmL m r ∧ r.length = w) → SmL n light → (w + 1) * (m + n + 1) ≤ 8990 → rows.length ≤ lim → call i [eyeD rows, row light] = ret (row (lookQ rows light))
theorem look_by_ok (hd : IsDot call f1) {rows : List (List Rat)} {light : List Rat} {m n w : Nat} (hr : ∀ r ∈ rows, SmL m r ∧ r.length = w) (hl : SmL n light) (hb : (w + 1) * (m + n + 1) ≤ 8990) (h4 : rows.length ≤ lim) :
    runB (B_look_by call f1) [some (eyeD rows), some (row light), none] = ret (row (lookQ rows light)) := by
  have e : eComp [2] (wVal (eVar 0)) (gNm 2) fYes (eCB (call f1) (aCons (eVar 2) (aCons (eVar 1) aNil))) false [some (eyeD rows), some (row light), none] = ret (.lst (rows.map fun r => rt (dotQ r light))) :=
    eComp_map (mk := row) (ok := fun _ => True) (by simp [free, eyeD]) (fun _ => trivial) h4 fun r hr' => by
      obtain ⟨q1, q2⟩ := hr r hr'
      have := hd r light m n q1 hl (by rw [q2]; exact hb)
      simp [wipeE, this]
  have e2 : (rows.map fun r => rt (dotQ r light)) = rts (lookQ rows light) := by
    unfold rts
    rw [List.map_map]
    rfl
  rw [e2] at e
  unfold B_look_by
  simp only [r_runB, r_sSeq, r_sRt, r_eCB, r_aCons, r_aNil, e, bnd_ret, r_bnd_bnd, r_tupL, tup_rts]
theorem lit_by_ok (hp : IsProds call f1) {a b : List Rat} {m n : Nat} (ha : SmL m a) (hb : SmL n b) (h : m + n ≤ 8999) (hl : a.length ≤ lim) : runB (B_lit_by call f1) [some (row a), some (row b)] = ret (row (prodQ a b)) := by
  have e := hp a b m n ha hb h hl
  unfold B_lit_by
  simp [e]
def IsLookUnderBy (call : Nat → List D → M D) (i : Nat) : Prop := ∀ (rows : List (List Rat)) (a b : List Rat) (m n p w : Nat), (∀ r ∈ rows, SmL m r ∧ r.length = w) → SmL n a → SmL p b → (w + 1) * (m + (n + p) + 1) ≤ 8990 → rows.length ≤ lim → a.length ≤ lim → call i [eyeD rows, row a, row b] = ret (row (lookQ rows (prodQ a b)))
theorem look_under_by_ok (h1 : IsLookBy call f1) (h2 : IsProds call f2) {rows : List (List Rat)} {a b : List Rat} {m n p w : Nat} (hr : ∀ r ∈ rows, SmL m r ∧ r.length = w) (ha : SmL n a) (hb : SmL p b) (h : (w + 1) * (m + (n + p) + 1) ≤ 8990) (h4 : rows.length ≤ lim) (hl : a.length ≤ lim) :
    runB (B_look_under_by call f1 f2) [some (eyeD rows), some (row a), some (row b)] = ret (row (lookQ rows (prodQ a b))) := by
  have h00 : m + (n + p) + 1 ≤ 8990 := Nat.le_trans (Nat.le_mul_of_pos_left _ (by omega)) h
  have e1 := h2 a b n p ha hb (by omega) hl
  have e2 := h1 rows (prodQ a b) m (n + p) w hr (prod_Sm ha hb) h h4
  unfold B_look_under_by
  simp [e1, e2]
def IsLookOf (call : Nat → List D → M D) (i : Nat) : Prop := ∀ (rows : List (List Rat)) (light : List Rat) (m n w : Nat), 1 ≤ w → w ≤ 6 → Eye w rows → (∀ r ∈ rows, SmL m r) → NN light → SmL n light → light.length = w → (w + 1) * (m + n + 1) ≤ 8990 → call i [eyeD rows, row light] = ret (row (lookQ rows light))
theorem look_of_ok (h1 : IsCheckEye call f1) (h2 : IsCheckLight call f2) (h3 : IsWidthOf call f3) (h4 : IsLookBy call f4) {rows : List (List Rat)} {light : List Rat} {m n w : Nat} (ha : 1 ≤ w) (hb : w ≤ 6) (he : Eye w rows) (hm : ∀ r ∈ rows, SmL m r) (hn : NN light) (hs : SmL n light) (hl : light.length = w) (hz : (w + 1) * (m + n + 1) ≤ 8990) :
    runB (B_look_of call f1 f2 f3 f4) [some (eyeD rows), some (row light)] = ret (row (lookQ rows light)) := by
  have e1 := h1 w rows ha hb he
  have e2 := h2 light hn (by rw [hl]; exact six_lim hb)
  rw [hl] at e2
  have e3 := h3 w rows he
  have e4 := h4 rows light m n w (fun r hr => ⟨hm r hr, (he.2.2 r hr).1⟩) hs hz (four_lim he.2.1)
  unfold B_look_of
  simp [e1, e2, e3, e4]
def IsLit (call : Nat → List D → M D) (i : Nat) : Prop := ∀ (a b : List Rat) (m n w : Nat), 1 ≤ w → w ≤ 6 → a.length = w → b.length = w → NN a → NZ a → SH b → SmL m a → SmL n b → m + n ≤ 8999 → call i [row a, row b] = ret (row (prodQ a b))
def IsLitBy (call : Nat → List D → M D) (i : Nat) : Prop := IsProds call i
theorem lit_ok (h1 : IsCheckAnyLamp call f1) (h2 : IsCheckSurf call f2) (h3 : IsLitBy call f3) {a b : List Rat} {m n w : Nat} (ha : 1 ≤ w) (hb : w ≤ 6) (hla : a.length = w) (hlb : b.length = w) (hna : NN a) (hza : NZ a) (hsb : SH b) (hma : SmL m a) (hmb : SmL n b) (hz : m + n ≤ 8999) :
    runB (B_lit call f1 f2 f3) [some (row a), some (row b)] = ret (row (prodQ a b)) := by
  have e1 := h1 a hna hza (by omega) (by omega)
  have e2 := h2 b hsb (by rw [hlb]; exact six_lim hb)
  rw [hlb] at e2
  have e3 := h3 a b m n hma hmb hz (by rw [hla]; exact six_lim hb)
  unfold B_lit
  simp [e1, e2, e3, hla]
def IsLookUnder (call : Nat → List D → M D) (i : Nat) : Prop := ∀ (rows : List (List Rat)) (a b : List Rat) (m n p w : Nat), 1 ≤ w → w ≤ 6 → Eye w rows → (∀ r ∈ rows, SmL m r) → a.length = w → b.length = w → NN a → NZ a → SH b → SmL n a → SmL p b → (w + 1) * (m + (n + p) + 1) ≤ 8990 → call i [eyeD rows, row a, row b] = ret (row (lookQ rows (prodQ a b)))
theorem look_under_ok (h1 : IsCheckEye call f1) (h2 : IsCheckLamp call f2) (h3 : IsWidthOf call f3) (h4 : IsCheckSurf call f4) (h5 : IsLookUnderBy call f5) {rows : List (List Rat)} {a b : List Rat} {m n p w : Nat} (ha : 1 ≤ w) (hb : w ≤ 6) (he : Eye w rows) (hm : ∀ r ∈ rows, SmL m r) (hla : a.length = w) (hlb : b.length = w) (hna : NN a) (hza : NZ a) (hsb : SH b) (hma : SmL n a) (hmb : SmL p b) (hz : (w + 1) * (m + (n + p) + 1) ≤ 8990) :
    runB (B_look_under call f1 f2 f3 f4 f5) [some (eyeD rows), some (row a), some (row b)] = ret (row (lookQ rows (prodQ a b))) := by
  have e1 := h1 w rows ha hb he
  have e2 := h2 a hna hza (by rw [hla]; exact six_lim hb)
  rw [hla] at e2
  have e3 := h3 w rows he
  have e4 := h4 b hsb (by rw [hlb]; exact six_lim hb)
  rw [hlb] at e4
  have e5 := h5 rows a b m n p w (fun r hr => ⟨hm r hr, (he.2.2 r hr).1⟩) hma hmb hz (four_lim he.2.1) (by rw [hla]; exact six_lim hb)
  unfold B_look_under
  simp [e1, e2, e3, e4, e5]
theorem is_light_ok (h : IsAnyLightT call f1) {qs : List Rat} (hn : NN qs) (ha : 1 ≤ qs.length) (hb : qs.length ≤ 6) : runB (B_is_light call f1) [some (row qs)] = ret (.bl true) := by
  have e := h qs hn ha hb
  unfold B_is_light
  simp [e]
end
end L3
set_option Elab.async false
set_option linter.all false
set_option maxRecDepth 100000
set_option maxHeartbeats 4000000
set_option exponentiation.threshold 20
namespace L3
open PySem
/-! ### cells -/
theorem idx_cell {n i : Nat} {g : G} {ds : List D} {d : D} (h : g[n]? = some (.lst ds)) (hd : ds[i]? = some d) : idxD (.ref n) (.int i) g = .ok d g := by
  unfold idxD
  show bnd (deref (.ref n)) (fun e => ofO (idxO e i)) g = _
  have e1 : deref (.ref n) g = .ok (.lst ds) g := by
    rw [deref_ref, h]
  rw [bnd_ok e1]
  unfold idxO itemsO
  simp only [atI_nat hd]
  rfl
theorem set_cell {n i : Nat} {g : G} {ds : List D} {d : D} (h : g[n]? = some (.lst ds)) (hi : i < ds.length) : setD (.ref n) (.int i) d g = .ok () (g.set n (.lst (ds.set i d))) := by
  have e : L2.ixN ds.length (i : Int) = some i := by
    unfold L2.ixN
    rw [if_pos (by omega), if_pos (by omega)]
    simp
  unfold setD
  simp only [h, e]
theorem at_set {n : Nat} {g : G} {c c' : Cell} (h : g[n]? = some c) : (g.set n c')[n]? = some c' := by
  rw [List.getElem?_set_self (List.getElem?_eq_some_iff.mp h).1]
/-! ### the pool -/
def Pool (n b : Nat) (g : G) : Prop := ∃ p0 p1 p2 : Int, g[n]? = some (.lst [.int p0, .int p1, .int p2]) ∧ 0 ≤ p0 ∧ 0 ≤ p1 ∧ p1 < 2 ^ 40 ∧ 0 ≤ p2 ∧ p2 ≤ b
theorem Pool.mono {n b b' : Nat} {g : G} (h : Pool n b g) (hb : b ≤ b') : Pool n b' g := by
  obtain ⟨p0, p1, p2, h1, h2, h3, h4, h5, h6⟩ := h
  exact ⟨p0, p1, p2, h1, h2, h3, h4, h5, by omega⟩
/-- nothing but the cell n is changed -/
def Same (n : Nat) (g g' : G) : Prop := g'.length = g.length ∧ ∀ i, i ≠ n → g'[i]? = g[i]?
theorem Same.refl (n : Nat) (g : G) : Same n g g := ⟨rfl, fun _ _ => rfl⟩
theorem Same.trans {n : Nat} {a b c : G} (h1 : Same n a b) (h2 : Same n b c) : Same n a c := ⟨h2.1.trans h1.1, fun i hi => (h2.2 i hi).trans (h1.2 i hi)⟩
theorem Same.set {n : Nat} {g : G} {c : Cell} : Same n g (g.set n c) := ⟨List.length_set .., fun i hi => List.getElem?_set_ne (Ne.symm hi)⟩
/-- it draws from the pool at n -/
def Drw (n b b' : Nat) (Good : D → Prop) (m : M D) : Prop := ∀ g, Pool n b g → ∃ y g', m g = .ok y g' ∧ Good y ∧ Pool n b' g' ∧ Same n g g'
theorem Drw.imp {n b b' : Nat} {P P' : D → Prop} {m : M D} (h : Drw n b b' P m) (i : ∀ y, P y → P' y) : Drw n b b' P' m := fun g hg => by
  obtain ⟨y, g', h1, h2, h3, h4⟩ := h g hg
  exact ⟨y, g', h1, i y h2, h3, h4⟩
theorem Drw.ret {n b b' : Nat} {P : D → Prop} {d : D} (h : P d) (hb : b ≤ b') : Drw n b b' P (ret d) := fun g hg => ⟨d, g, rfl, h, hg.mono hb, Same.refl _ _⟩
theorem Drw.bnd {n b b1 b' : Nat} {P P' : D → Prop} {m : M D} {k : D → M D} (h : Drw n b b1 P m) (hk : ∀ y, P y → Drw n b1 b' P' (k y)) : Drw n b b' P' (bnd m k) := fun g hg => by
  obtain ⟨y, g1, h1, h2, h3, h4⟩ := h g hg
  obtain ⟨z, g2, k1, k2, k3, k4⟩ := hk y h2 g1 h3
  exact ⟨z, g2, by rw [bnd_ok h1, k1], k2, k3, h4.trans k4⟩
def Small (c : Int) : Prop := 0 ≤ c ∧ c < 2 ^ 40
theorem Small.s9 {c : Int} (h : Small c) : S9 c := S9_of (n := 40) (by have h1 := h.1; have h2 := h.2; omega) (by decide)
theorem S9_lt {c : Int} {n : Nat} (h0 : 0 ≤ c) (h : c < 2 ^ n) (hn : n ≤ 9000) : S9 c := S9_of (n := n) (by
  have e : ((c.natAbs : Nat) : Int) = c := Int.natAbs_of_nonneg h0
  have h2 : ((c.natAbs : Nat) : Int) < ((2 ^ n : Nat) : Int) := by
    rw [e]
    push_cast
    exact h
  exact_mod_cast h2) hn
def InR (hi : Int) (y : D) : Prop := ∃ r : Int, y = .int r ∧ 0 ≤ r ∧ r < hi
def IsBelow (call : Nat → List D → M D) (i : Nat) : Prop := ∀ (n b : Nat) (many : Int), 0 < many → S9 many → b ≤ 10 ^ 9 → Drw n b (b + 1) (InR many) (call i [.ref n, .int many])
@[simp] theorem r_divmod (a b : Int) : bi divmodD [.int a, .int b] = if divOk a b = true then ret (.tup [.int (a / b), .int (a % b)]) else bot := rfl
@[simp] theorem r_int (i : Int) : un intD [.int i] = ret (.int i) := rfl
@[simp] theorem r_abs (i : Int) : un absD [.int i] = ret (.int (if i < 0 then -i else i)) := rfl
theorem below_ok {call : Nat → List D → M D} {c1 c2 c3 c4 c5 c6 c7 : Int} (h1 : Small c1) (h2 : Small c2) (h3 : Small c3) (h4 : Small c4) (h5 : Small c5) (h6 : Small c6) (h7 : Small c7) (p3 : 0 < c3) (p4 : 0 < c4) (p6 : 0 < c6) (p7 : 0 < c7) {n b : Nat} {many : Int} (hm : 0 < many) (h9 : S9 many) (hb : b ≤ 10 ^ 9) :
    Drw n b (b + 1) (InR many) (runB (B__law_below call c1 c2 c3 c4 c5 c6 c7) [some (.ref n), some (.int many), none, none]) := by
  rintro g ⟨q0, q1, q2, hc, a0, a1, a2, a3, a4⟩
  have i0 := idx_cell (i := 0) hc rfl
  have i1 := idx_cell (i := 1) hc rfl
  have i2 := idx_cell (i := 2) hc rfl
  by_cases hp : 0 < q0
  · have d1 := divOk_S9 (a := q0) hm h9
    refine ⟨.int (q0 % many), g.set n (.lst [.int (q0 / many), .int q1, .int q2]), ?_, ⟨_, rfl, Int.emod_nonneg _ (by omega), Int.emod_lt_of_pos _ hm⟩, ⟨q0 / many, q1, q2, at_set hc, Int.ediv_nonneg a0 (by omega), a1, a2, a3, by omega⟩, Same.set⟩
    have s0 := set_cell (i := 0) (d := .int (q0 / many)) hc (show 0 < 3 by decide)
    unfold B__law_below
    simp only [Int.natCast_zero] at i0 s0
    simp [bnd, i0, hp, d1, s0]
  · -- a fresh number
    obtain ⟨q3, hq3⟩ : ∃ q3 : Int, q3 = q2 + 1 := ⟨_, rfl⟩
    obtain ⟨g1, hg1⟩ : ∃ g1 : G, g1 = g.set n (.lst [.int q0, .int q1, .int q3]) := ⟨_, rfl⟩
    have s2 : setD (.ref n) (.int 2) (.int q3) g = .ok () g1 := by
      rw [hg1]
      exact set_cell (i := 2) (d := .int q3) hc (show 2 < 3 by decide)
    have hc1 : g1[n]? = some (.lst [.int q0, .int q1, .int q3]) := by
      rw [hg1]
      exact at_set hc
    have j1 : idxD (.ref n) (.int 1) g1 = .ok (.int q1) g1 := idx_cell (i := 1) hc1 rfl
    have j2 : idxD (.ref n) (.int 2) g1 = .ok (.int q3) g1 := idx_cell (i := 2) hc1 rfl
    have b2 : q3 < 2 ^ 40 := by omega
    have m1 := mulOk_S9 (S9_lt (n := 40) a1 a2 (by decide)) h1.s9
    have m2 := mulOk_S9 h2.s9 (S9_lt (n := 40) (show 0 ≤ q3 by omega) b2 (by decide))
    obtain ⟨st, hst⟩ : ∃ st : Int, (q1 * c1 + c2 * q3 + 71) % c3 = st := ⟨_, rfl⟩
    have t0 : 0 ≤ st := by
      rw [← hst]
      exact Int.emod_nonneg _ (by omega)
    have t1 : st < c3 := by
      rw [← hst]
      exact Int.emod_lt_of_pos _ p3
    obtain ⟨su, hsu⟩ : ∃ su : Int, st % c4 + c5 = su := ⟨_, rfl⟩
    have u0 : 0 ≤ st % c4 := Int.emod_nonneg _ (by omega)
    have u1 : st % c4 < c4 := Int.emod_lt_of_pos _ p4
    have m3 : mulOk st su = true := mulOk_S9 (S9_lt (n := 40) t0 (by have := h3.2; omega) (by decide)) (S9_lt (n := 41) (by have := h5.1; omega) (by have := h4.2; have := h5.2; omega) (by decide))
    obtain ⟨p1, hp1⟩ : ∃ p1 : Int, (st * su + q3) % c6 = p1 := ⟨_, rfl⟩
    have v0 : 0 ≤ p1 := by
      rw [← hp1]
      exact Int.emod_nonneg _ (by omega)
    have v1 : p1 < c6 := by
      rw [← hp1]
      exact Int.emod_lt_of_pos _ p6
    obtain ⟨g2, hg2⟩ : ∃ g2 : G, g2 = g1.set n (.lst [.int q0, .int p1, .int q3]) := ⟨_, rfl⟩
    have s1 : setD (.ref n) (.int 1) (.int p1) g1 = .ok () g2 := by
      rw [hg2]
      exact set_cell (i := 1) (d := .int p1) hc1 (show 1 < 3 by decide)
    have hc2 : g2[n]? = some (.lst [.int q0, .int p1, .int q3]) := by
      rw [hg2]
      exact at_set hc1
    have k1 : idxD (.ref n) (.int 1) g2 = .ok (.int p1) g2 := idx_cell (i := 1) hc2 rfl
    have d7 := divOk_S9 (a := p1) p7 h7.s9
    have i0 : idxD (.ref n) (.int 0) g = .ok (.int q0) g := i0
    have i2 : idxD (.ref n) (.int 2) g = .ok (.int q2) g := i2
    refine ⟨.int (p1 / c7 % many), g2, ?_, ⟨_, rfl, Int.emod_nonneg _ (by omega), Int.emod_lt_of_pos _ hm⟩, ⟨q0, p1, q3, hc2, a0, v0, by have := h6.2; omega, by omega, by omega⟩, ?_⟩
    · unfold B__law_below
      simp [bnd, i0, hp, i2, ← hq3, s2, j1, j2, m1, m2, p3, hst, p4, hsu, m3, p6, hp1, s1, k1, d7, hm, p7]
    · rw [hg2, hg1]
      exact Same.set.trans Same.set
end L3
set_option Elab.async false
set_option linter.all false
set_option maxRecDepth 100000
set_option maxHeartbeats 4000000
set_option exponentiation.threshold 20
namespace L3
open PySem
/-! ### Euclid's loop -/
def eT : TF := tBl (eBin gtD (eVar 3) (eC (.int 0)))
def eB : SF := sSeq (sP2 2 3 (aCons (eVar 3) (aCons (eBin modD (eCB (un intD) (aCons (eVar 2) aNil)) (eVar 3)) aNil))) sNx
theorem half_mod {b r : Nat} (h0 : 0 < r) (h1 : r < b) : 2 * (b % r) < b := by
  have h2 := Nat.mod_lt b h0
  have h3 := Nat.div_add_mod b r
  have h4 : 1 ≤ b / r := (Nat.one_le_div_iff h0).mpr (Nat.le_of_lt h1)
  have h5 : r * 1 ≤ r * (b / r) := Nat.mul_le_mul_left r h4
  omega
theorem gcd_step (a b : Nat) : Nat.gcd a b = Nat.gcd b (a % b) := by
  rw [Nat.gcd_comm, Nat.gcd_rec, Nat.gcd_comm]
theorem euc_stop {x y : D} {a : Nat} {f : Nat} : whileL eT eB (f + 1) [some x, some y, some (.int a), some (.int ((0 : Nat) : Int))] = ret (.nx [some x, some y, some (.int a), some (.int 0)]) := by
  unfold whileL eT
  simp
theorem euc_step {x y : D} {a b : Nat} {f : Nat} (hb : 0 < b) : whileL eT eB (f + 1) [some x, some y, some (.int a), some (.int b)] = whileL eT eB f [some x, some y, some (.int b), some (.int ((a % b : Nat) : Int))] := by
  have h : (0 : Int) < b := by omega
  conv => lhs; unfold whileL
  unfold eT eB
  simp [h, hb]
theorem euclid {x y : D} : ∀ (n a b f : Nat), b < 2 ^ n → 2 * n + 1 ≤ f → whileL eT eB f [some x, some y, some (.int a), some (.int b)] = ret (.nx [some x, some y, some (.int ((Nat.gcd a b : Nat) : Int)), some (.int 0)])
  | 0, a, b, f, h, hf => by
    have e : b = 0 := by simpa using h
    subst e
    obtain ⟨f', rfl⟩ : ∃ f', f = f' + 1 := ⟨f - 1, by omega⟩
    rw [euc_stop, Nat.gcd_zero_right]
  | n + 1, a, b, f, h, hf => by
    by_cases hb : b = 0
    · subst hb
      obtain ⟨f', rfl⟩ : ∃ f', f = f' + 1 := ⟨f - 1, by omega⟩
      rw [euc_stop, Nat.gcd_zero_right]
    · have hb0 : 0 < b := Nat.pos_of_ne_zero hb
      obtain ⟨f', rfl⟩ : ∃ f', f = f' + 2 := ⟨f - 2, by omega⟩
      rw [euc_step hb0]
      by_cases hr : a % b = 0
      · rw [hr, euc_stop, gcd_step, hr, Nat.gcd_zero_right]
      · have hr0 : 0 < a % b := Nat.pos_of_ne_zero hr
        have hm := half_mod hr0 (Nat.mod_lt a hb0)
        rw [euc_step hr0, euclid n (a % b) (b % (a % b)) f' (by rw [Nat.pow_succ] at h; omega) (by omega), gcd_step a b, gcd_step b (a % b)]
theorem big_ok : 2 * 9000 + 1 ≤ big := by
  unfold big
  decide
section
variable {call : Nat → List D → M D} {f1 f2 f3 f4 f5 : Nat}
theorem law_ratio_ok {t : Int} {l : Nat} (hl : 0 < l) (h9 : S9 (l : Int)) : runB (B__law_ratio call) [some (.int t), some (.int (l : Int)), none, none] = ret (rt (mkRat t l)) := by
  have hg : 0 < Nat.gcd t.natAbs l := Nat.gcd_pos_of_pos_right _ hl
  have hl2 : l < 2 ^ 9000 := by
    unfold S9 at h9
    rw [Int.natAbs_natCast] at h9
    exact h9
  have hg9 : S9 ((Nat.gcd t.natAbs l : Nat) : Int) := by
    unfold S9
    rw [Int.natAbs_natCast]
    exact Nat.lt_of_le_of_lt (Nat.gcd_le_right _ hl) hl2
  have d1 := divOk_S9 (a := t) (Int.natCast_pos.mpr hg) hg9
  have d2 := divOk_S9 (a := (l : Int)) (Int.natCast_pos.mpr hg) hg9
  have e1 : (mkRat t l).num = t / ((Nat.gcd t.natAbs l : Nat) : Int) := by
    rw [Rat.num_mkRat, if_neg (by omega), Nat.gcd_comm]
  have e2 : ((mkRat t l).den : Int) = (l : Int) / ((Nat.gcd t.natAbs l : Nat) : Int) := by
    rw [Rat.den_mkRat, if_neg (by omega), Nat.gcd_comm]
    rfl
  have ea : (if t < 0 then -t else t) = ((t.natAbs : Nat) : Int) := by
    split <;> omega
  have eb : (if (l : Int) < 0 then -(l : Int) else (l : Int)) = ((l : Nat) : Int) := by
    rw [if_neg (by omega)]
  have ew : sWhile eT eB [some (.int t), some (.int (l : Int)), some (.int ((t.natAbs : Nat) : Int)), some (.int ((l : Nat) : Int))] = ret (.nx [some (.int t), some (.int (l : Int)), some (.int ((Nat.gcd t.natAbs l : Nat) : Int)), some (.int 0)]) := euclid 9000 _ _ _ hl2 big_ok
  have hpos : (0 : Int) < l := by omega
  unfold B__law_ratio rt
  change runB (sSeq _ (sSeq (sWhile eT eB) _)) _ = _
  simp only [r_runB, r_sSeq, r_sP2, r_eCB, r_aCons, r_aNil, r_eVar, List.getElem?_cons_zero, List.getElem?_cons_succ, bnd_ret, r_bnd_bnd, r_abs, ea, eb, List.set_cons_zero, List.set_cons_succ, ew]
  simp [hpos, hl, d1, d2, e1, e2]
theorem law_plus_ok (hr : IsRatio call f1) {a b : Rat} {m n : Nat} (ha : Sm m a) (hb : Sm n b) (h : m + n ≤ 8999) : runB (B__law_plus call f1) [some (rt a), some (rt b)] = ret (rt (a + b)) := plus_ok hr ha hb h
theorem law_times_ok (hr : IsRatio call f1) {a b : Rat} {m n : Nat} (ha : Sm m a) (hb : Sm n b) (h : m + n ≤ 8999) : runB (B__law_times call f1) [some (rt a), some (rt b)] = ret (rt (a * b)) := times_ok hr ha hb h
theorem zip_items (a b : List Rat) (j : Nat) (d : D) (h : ((rts a).zipWith (fun p q => D.tup [p, q]) (rts b))[j]? = some d) : ∃ p q, a[j]? = some p ∧ b[j]? = some q ∧ d = .tup [rt p, rt q] ∧ (prodQ a b)[j]? = some (p * q) := by
  obtain ⟨x, z, hx, hz, rfl⟩ := zip_get _ h
  have hx : (a.map rt)[j]? = some x := hx
  have hz : (b.map rt)[j]? = some z := hz
  rw [List.getElem?_map] at hx hz
  cases qa : a[j]? with
  | none => rw [qa] at hx; cases hx
  | some p =>
    cases qb : b[j]? with
    | none => rw [qb] at hz; cases hz
    | some q =>
      rw [qa] at hx
      rw [qb] at hz
      cases hx
      cases hz
      exact ⟨p, q, rfl, rfl, rfl, by rw [List.getElem?_zipWith, qa, qb]⟩
theorem law_dot_ok (hp : IsPlus call f1) (ht : IsTimes call f2) {a b : List Rat} {m n : Nat} (ha : SmL m a) (hb : SmL n b) (h : (a.length + 1) * (m + n + 1) ≤ 8990) :
    runB (B__law_dot call f1 f2) [some (row a), some (row b), none, none, none] = ret (rt (dotQ a b)) := by
  have h00 : m + n + 1 ≤ 8990 := Nat.le_trans (Nat.le_mul_of_pos_left _ (by omega)) h
  have hs := prod_Sm ha hb
  obtain ⟨e2, h1, x, y, h2⟩ := forL_inv (ok := fun _ => True ∧ True) (gf := gTp 2 (gsCons (gNm 3) (gsCons (gNm 4) gsNil))) (body := sSeq (sAs (eCB (call f1) (aCons (eVar 2) (aCons (eCB (call f2) (aCons (eVar 3) (aCons (eVar 4) aNil))) aNil))) (gNm 2)) sNx) (fun _ => ⟨trivial, trivial⟩)
    (Inv := fun j env => ∃ x y, env = [some (row a), some (row b), some (rt (sumQ ((prodQ a b).take j))), x, y]) (its := (rts a).zipWith (fun p q => D.tup [p, q]) (rts b)) (env := [some (row a), some (row b), some (.tup [.int 0, .int 1]), none, none]) (j := 0) (fun i d env hd hi => by
      obtain ⟨x, y, rfl⟩ := hi
      rw [Nat.zero_add] at *
      obtain ⟨p, q, qa, qb, rfl, hpq⟩ := zip_items a b i d hd
      have hi : i < a.length := (List.getElem?_eq_some_iff.mp qa).1
      have hbi : i * (m + n + 1) + 1 + (m + n) ≤ 8999 := by
        have : (i + 1) * (m + n + 1) ≤ (a.length + 1) * (m + n + 1) := Nat.mul_le_mul_right _ (by omega)
        rw [Nat.succ_mul] at this
        omega
      have e1 := ht p q m n (ha p (List.mem_of_getElem? qa)) (hb q (List.mem_of_getElem? qb)) (by omega)
      have e := hp (sumQ ((prodQ a b).take i)) (p * q) _ _ (sum_Sm hs i) ((ha p (List.mem_of_getElem? qa)).mul (hb q (List.mem_of_getElem? qb))) hbi
      refine ⟨[some (row a), some (row b), some (rt (sumQ ((prodQ a b).take (i + 1)))), some (rt p), some (rt q)], ?_, _, _, rfl⟩
      rw [sum_take hpq]
      simp [e, e1]) ⟨none, none, rfl⟩
  rw [Nat.zero_add] at h2
  have hlen : ((rts a).zipWith (fun p q => D.tup [p, q]) (rts b)).length = (prodQ a b).length := by simp
  rw [hlen, List.take_of_length_le (Nat.le_refl _)] at h2
  subst h2
  have e3 : sFor (wZip (aCons (eVar 0) (aCons (eVar 1) aNil))) (gTp 2 (gsCons (gNm 3) (gsCons (gNm 4) gsNil))) (sSeq (sAs (eCB (call f1) (aCons (eVar 2) (aCons (eCB (call f2) (aCons (eVar 3) (aCons (eVar 4) aNil))) aNil))) (gNm 2)) sNx) [some (row a), some (row b), some (.tup [.int 0, .int 1]), none, none] = ret (.nx [some (row a), some (row b), some (rt (sumQ (prodQ a b))), x, y]) := by
    unfold sFor
    simp only [r_wZip, r_aCons, r_aNil, r_eVar, List.getElem?_cons_zero, List.getElem?_cons_succ, bnd_ret, zipD, seq_row, free]
    exact h1
  unfold B__law_dot
  simp only [r_runB, r_sSeq, r_sAs, r_eTup, r_aCons, r_aNil, r_eC, bnd_ret, r_bnd_bnd, fit2, r_gNm, List.set_cons_zero, List.set_cons_succ, e3]
  simp
theorem law_one_tup (h : IsBelow call f1) {n b : Nat} {ds : List D} (hd : ds ≠ []) (hl : ds.length ≤ lim) (hb : b ≤ 10 ^ 9) : Drw n b (b + 1) (fun y => y ∈ ds) (runB (B__law_one call f1) [some (.ref n), some (.tup ds)]) := fun g hg => by
  have hp : 0 < ds.length := List.length_pos_iff.mpr hd
  obtain ⟨y, g', e1, ⟨r, rfl, r0, r1⟩, p1, s1⟩ := h n b ds.length (by omega) (S9_of (n := 25) (by rw [Int.natAbs_natCast]; exact Nat.lt_of_le_of_lt hl (by decide)) (by decide)) hb g hg
  obtain ⟨i, rfl⟩ : ∃ i : Nat, r = i := ⟨r.toNat, by omega⟩
  have hi : i < ds.length := by omega
  have e2 := idx_tup (List.getElem?_eq_getElem hi)
  refine ⟨ds[i], g', ?_, List.getElem_mem hi, p1, s1⟩
  unfold B__law_one
  simp [bnd, e1, e2]
theorem len_cell {m : Nat} {g : G} {ds : List D} (h : g[m]? = some (.lst ds)) : un lenD [.ref m] g = .ok (.int ds.length) g := by
  unfold un lenD rd1
  dsimp only
  have e1 : deref (.ref m) g = .ok (.lst ds) g := by
    rw [deref_ref, h]
  rw [bnd_ok e1]
  rfl
theorem law_one_cell (h : IsBelow call f1) {n m b : Nat} {ds : List D} {g : G} (hm : m ≠ n) (hc : g[m]? = some (.lst ds)) (hd : ds ≠ []) (hl : ds.length ≤ lim) (hb : b ≤ 10 ^ 9) (hg : Pool n b g) :
    ∃ y g', runB (B__law_one call f1) [some (.ref n), some (.ref m)] g = .ok y g' ∧ y ∈ ds ∧ Pool n (b + 1) g' ∧ Same n g g' := by
  have hp : 0 < ds.length := List.length_pos_iff.mpr hd
  obtain ⟨y, g', e1, ⟨r, rfl, r0, r1⟩, p1, s1⟩ := h n b ds.length (by omega) (S9_of (n := 25) (by rw [Int.natAbs_natCast]; exact Nat.lt_of_le_of_lt hl (by decide)) (by decide)) hb g hg
  obtain ⟨i, rfl⟩ : ∃ i : Nat, r = i := ⟨r.toNat, by omega⟩
  have hi : i < ds.length := by omega
  have hc' : g'[m]? = some (.lst ds) := by rw [s1.2 m hm]; exact hc
  have e2 := idx_cell hc' (List.getElem?_eq_getElem hi)
  have e3 := len_cell hc
  refine ⟨ds[i], g', ?_, List.getElem_mem hi, p1, s1⟩
  unfold B__law_one
  simp [bnd, e1, e2, e3]
end
end L3
set_option Elab.async false
set_option linter.all false
set_option maxRecDepth 100000
set_option maxHeartbeats 4000000
set_option exponentiation.threshold 100
namespace L3
open PySem
/-! ### drawing -/
theorem compA_draw {n c : Nat} {Good : D → Prop} {ok : G → Prop} {gf : GF} {ef : EF} {env : Env3} (hok : ∀ g, ok g) : ∀ {its acc : List D} {b : Nat}, (∀ d ∈ its, ∀ b', b ≤ b' → b' + c ≤ b + its.length * c → Drw n b' (b' + c) Good (bnd (gf d env) ef)) →
    ∀ g, Pool n b g → ∃ ys g', compA ok gf fYes ef env acc its g = .ok (acc ++ ys) g' ∧ ys.length = its.length ∧ (∀ y ∈ ys, Good y) ∧ Pool n (b + its.length * c) g' ∧ Same n g g'
  | [], acc, b, _, g, hg => ⟨[], g, by unfold compA; rw [chk_ok hok, List.append_nil]; rfl, rfl, (fun _ h => by cases h), by simpa using hg, Same.refl _ _⟩
  | d :: its, acc, b, h, g, hg => by
    have hm : (d :: its).length * c = its.length * c + c := by rw [List.length_cons, Nat.succ_mul]
    obtain ⟨y, g1, h1, h2, h3, h4⟩ := h d (List.mem_cons_self ..) b (Nat.le_refl _) (by omega) g hg
    obtain ⟨ys, g2, k1, k2, k3, k4, k5⟩ := compA_draw (acc := acc ++ [y]) (b := b + c) hok (fun d' hd b' hb1 hb2 => h d' (List.mem_cons_of_mem _ hd) b' (by omega) (by omega)) g1 h3
    refine ⟨y :: ys, g2, ?_, by rw [List.length_cons, List.length_cons, k2], fun z hz => ?_, by rw [hm]; exact k4.mono (by omega), h4.trans k5⟩
    · unfold compA
      rw [chk_ok hok]
      have e : (bnd (gf d env) fun e1 => bnd (fYes e1) fun k => if k = true then bnd (ef e1) fun y => compA ok gf fYes ef env (acc ++ [y]) its else compA ok gf fYes ef env acc its) = bnd (bnd (gf d env) ef) fun y => compA ok gf fYes ef env (acc ++ [y]) its := by
        rw [bnd_assoc]
        congr 1
      rw [e, bnd_ok h1, k1, List.append_assoc]
      rfl
    · rcases List.mem_cons.mp hz with rfl | hz
      · exact h2
      · exact k3 z hz
theorem eComp_draw {n b c : Nat} {Good : D → Prop} {own : List Nat} {wf : WF} {gf : GF} {ef : EF} {env : Env3} {w : Wk} (hw : wf env = ret w) (hok : ∀ g, w.ok g) (hl : w.its.length ≤ lim)
    (h : ∀ d ∈ w.its, ∀ b', b ≤ b' → b' + c ≤ b + w.its.length * c → Drw n b' (b' + c) Good (bnd (gf d (wipeE env own)) ef)) : Drw n b (b + w.its.length * c) (fun y => ∃ ys, y = .lst ys ∧ ys.length = w.its.length ∧ ∀ z ∈ ys, Good z) (eComp own wf gf fYes ef false env) := fun g hg => by
  obtain ⟨ys, g', h1, h2, h3, h4, h5⟩ := compA_draw (acc := []) hok h g hg
  refine ⟨.lst ys, g', ?_, ⟨ys, rfl, h2, h3⟩, h4, h5⟩
  unfold eComp
  rw [hw, bnd_ret, if_pos hl, bnd_ok (noErr_ok h1)]
  rfl
theorem rts_of {P : Rat → Prop} : ∀ {ys : List D}, (∀ z ∈ ys, ∃ q, z = rt q ∧ P q) → ∃ qs, ys = rts qs ∧ qs.length = ys.length ∧ ∀ q ∈ qs, P q
  | [], _ => ⟨[], rfl, rfl, (fun _ h => by cases h)⟩
  | y :: ys, h => by
    obtain ⟨q, rfl, hq⟩ := h y (List.mem_cons_self ..)
    obtain ⟨qs, rfl, hl, hqs⟩ := rts_of (ys := ys) fun z hz => h z (List.mem_cons_of_mem _ hz)
    exact ⟨q :: qs, rfl, by rw [List.length_cons, List.length_cons, hl], fun z hz => by
      rcases List.mem_cons.mp hz with rfl | hz
      · exact hq
      · exact hqs z hz⟩
/-- how a small fraction is made -/
theorem mk_small {t : Int} {l : Nat} (h0 : 0 ≤ t) (h1 : t < 2 ^ 40) (hl : 0 < l) (h2 : l < 2 ^ 40) : 0 ≤ mkRat t l ∧ Sm 40 (mkRat t l) := by
  refine ⟨?_, mkRat_Sm (by omega) h2 hl⟩
  rw [← Rat.num_nonneg, Rat.num_mkRat, if_neg (by omega)]
  exact Int.ediv_nonneg h0 (by omega)
theorem S9_40 {l : Nat} (h : l < 2 ^ 40) : S9 (l : Int) := S9_of (n := 40) (by rw [Int.natAbs_natCast]; exact h) (by decide)
def QP (P : Rat → Prop) (y : D) : Prop := ∃ q, y = rt q ∧ P q
def CN (q : Rat) : Prop := 0 ≤ q ∧ Sm 40 q
theorem CN0 : CN 0 := ⟨by decide, Sm.zero 39⟩
theorem CN1 : CN 1 := ⟨by decide, by show 1 < 2 ^ 40; decide, by show 1 < 2 ^ 40; decide⟩
section
variable {call : Nat → List D → M D} {f1 f2 f3 f4 f5 : Nat}
def IsDrw (call : Nat → List D → M D) (i c : Nat) (Good : D → Prop) : Prop := ∀ n b, b + c ≤ 10 ^ 9 → Drw n b (b + c) Good (call i [.ref n])
def IsDrw1 (call : Nat → List D → M D) (i c : Nat) (Good : Nat → D → Prop) : Prop := ∀ n b w, 1 ≤ w → w ≤ 6 → b + c ≤ 10 ^ 9 → Drw n b (b + c) (Good w) (call i [.ref n, .int (w : Nat)])
theorem Drw.at_ {n b b' : Nat} {P : D → Prop} {m : M D} (h : Drw n b b' P m) {g : G} (hg : Pool n b g) : ∃ y g', m g = .ok y g' ∧ P y ∧ Pool n b' g' ∧ Same n g g' := h g hg
theorem ten9 : 10 ^ 9 < 2 ^ 40 := by decide
theorem content_ok (hb : IsBelow call f1) (hr : IsRatio call f2) {n b : Nat} (h : b + 3 ≤ 10 ^ 9) : Drw n b (b + 3) (QP CN) (runB (B__law_content call f1 f2) [some (.ref n), none]) := fun g hg => by
  obtain ⟨y, g1, e1, ⟨r, rfl, r0, r1⟩, p1, s1⟩ := hb n b 8 (by decide) (S9_40 (l := 8) (by decide)) (by omega) g hg
  by_cases c1 : r < 2
  · refine ⟨rt 0, g1, ?_, ⟨0, rfl, CN0⟩, p1.mono (by omega), s1⟩
    unfold B__law_content
    simp [bnd, e1, c1, zero_rt]
  · by_cases c2 : r = 2
    · refine ⟨rt 1, g1, ?_, ⟨1, rfl, CN1⟩, p1.mono (by omega), s1⟩
      unfold B__law_content
      simp [bnd, e1, c1, c2, one_rt]
    · have c2' : (r == 2) = false := by simpa using c2
      by_cases c3 : r = 7
      · obtain ⟨y2, g2, e2, ⟨t, rfl, t0, t1⟩, p2, s2⟩ := hb n (b + 1) (10 ^ 12) (by decide) (S9_40 (l := 10 ^ 12) (by decide)) (by omega) g1 p1
        obtain ⟨y3, g3, e3, ⟨l, rfl, l0, l1⟩, p3, s3⟩ := hb n (b + 1 + 1) (10 ^ 9) (by decide) (S9_40 (l := 10 ^ 9) (by decide)) (by omega) g2 p2
        obtain ⟨k, rfl⟩ : ∃ k : Nat, l = k := ⟨l.toNat, by omega⟩
        have hk : 1 + k < 2 ^ 40 := by omega
        have e4 := hr t (1 + k) (by omega) (S9_40 hk)
        obtain ⟨m0, m1⟩ := mk_small (t := t) (l := 1 + k) t0 (by omega) (by omega) hk
        refine ⟨rt (mkRat t (1 + k)), g3, ?_, ⟨_, rfl, m0, m1⟩, p3, (s1.trans s2).trans s3⟩
        subst c3
        rw [Int.natCast_add, Int.natCast_one] at e4
        have q1 : powD (.int 10) (.int 12) = ret (.int (10 ^ 12)) := rfl
        have q2 : powD (.int 10) (.int 9) = ret (.int (10 ^ 9)) := rfl
        unfold B__law_content
        simp only [r_runB, r_sSeq, r_sAs, r_eCB, r_aCons, r_aNil, r_eVar, List.getElem?_cons_zero, bnd_ret, r_bnd_bnd, r_eC]
        rw [bnd_ok e1]
        simp [bnd, q1, q2]
        simp only [Int.reducePow] at e2 e3
        simp [e2, e3, e4]
      · have c3' : (r == 7) = false := by simpa using c3
        obtain ⟨y2, g2, e2, ⟨t, rfl, t0, t1⟩, p2, s2⟩ := hb n (b + 1) 7 (by decide) (S9_40 (l := 7) (by decide)) (by omega) g1 p1
        obtain ⟨y3, g3, e3, ⟨l, rfl, l0, l1⟩, p3, s3⟩ := hb n (b + 1 + 1) 5 (by decide) (S9_40 (l := 5) (by decide)) (by omega) g2 p2
        obtain ⟨k, rfl⟩ : ∃ k : Nat, l = k := ⟨l.toNat, by omega⟩
        have hk : 1 + k < 2 ^ 40 := by omega
        have e4 := hr t (1 + k) (by omega) (S9_40 hk)
        obtain ⟨m0, m1⟩ := mk_small (t := t) (l := 1 + k) t0 (by omega) (by omega) hk
        refine ⟨rt (mkRat t (1 + k)), g3, ?_, ⟨_, rfl, m0, m1⟩, p3, (s1.trans s2).trans s3⟩
        rw [Int.natCast_add, Int.natCast_one] at e4
        unfold B__law_content
        simp [bnd, e1, c1, c2', c3', e2, e3, e4]
end
end L3
set_option Elab.async false
set_option linter.all false
set_option maxRecDepth 100000
set_option maxHeartbeats 4000000
set_option exponentiation.threshold 100
namespace L3
open PySem
def SHn (q : Rat) : Prop := 0 ≤ q ∧ q ≤ 1 ∧ Sm 40 q
def IsOneT (call : Nat → List D → M D) (i : Nat) : Prop := ∀ (n b : Nat) (ds : List D), ds ≠ [] → ds.length ≤ lim → b ≤ 10 ^ 9 → Drw n b (b + 1) (fun y => y ∈ ds) (call i [.ref n, .tup ds])
theorem Same.pool {n m : Nat} {g g' : G} (h : Same n g g') (hm : m ≠ n) : g'[m]? = g[m]? := h.2 m hm
section
variable {call : Nat → List D → M D} {f1 f2 f3 f4 f5 : Nat}
theorem mk_share {t : Int} {l : Nat} (h0 : 0 ≤ t) (h1 : t ≤ l) (hl : 0 < l) (h2 : l < 2 ^ 40) : SHn (mkRat t l) := by
  obtain ⟨a, b⟩ := mk_small h0 (by omega) hl h2
  refine ⟨a, ?_, b⟩
  rw [Rat.le_iff]
  rw [Rat.num_mkRat, Rat.den_mkRat, if_neg (by omega), if_neg (by omega)]
  have hg : ((l.gcd t.natAbs : Nat) : Int) ∣ t := Int.natAbs_dvd_natAbs.mp (by rw [Int.natAbs_natCast]; exact Nat.gcd_dvd_right _ _)
  simp only [Rat.one_num, Rat.one_den, Int.one_mul, Int.natCast_one, Int.mul_one, Int.natCast_ediv]
  exact Int.ediv_le_ediv (by have := Nat.gcd_pos_of_pos_left t.natAbs hl; omega) h1
theorem share_ok (h1 : IsOneT call f1) (h2 : IsBelow call f2) (h3 : IsRatio call f3) {n b : Nat} (h : b + 4 ≤ 10 ^ 9) : Drw n b (b + 4) (QP SHn) (runB (B__law_share call f1 f2 f3) [some (.ref n), none]) := fun g hg => by
  obtain ⟨y1, g1, e1, ⟨r, rfl, r0, r1⟩, p1, s1⟩ := h2 n b (10 ^ 9) (by decide) (S9_40 (l := 10 ^ 9) (by decide)) (by omega) g hg
  obtain ⟨y2, g2, e2, m2, p2, s2⟩ := h1 n (b + 1) [.int 1, .int 2, .int 3, .int 4, .int 10, .int (1 + r)] (by simp) (show 6 ≤ lim by decide) (by omega) g1 p1
  obtain ⟨l, rfl, l0, l1⟩ : ∃ l : Nat, y2 = .int l ∧ 1 ≤ l ∧ l ≤ 10 ^ 9 := by
    simp only [List.mem_cons, List.not_mem_nil, or_false] at m2
    rcases m2 with rfl | rfl | rfl | rfl | rfl | rfl
    · exact ⟨1, rfl, by decide, by decide⟩
    · exact ⟨2, rfl, by decide, by decide⟩
    · exact ⟨3, rfl, by decide, by decide⟩
    · exact ⟨4, rfl, by decide, by decide⟩
    · exact ⟨10, rfl, by decide, by decide⟩
    · refine ⟨(1 + r).toNat, ?_, by omega, by omega⟩
      have : ((1 + r).toNat : Int) = 1 + r := by omega
      rw [this]
  obtain ⟨y3, g3, e3, ⟨t, rfl, t0, t1⟩, p3, s3⟩ := h2 n (b + 1 + 1) ((l : Int) + 1) (by omega) (S9_40 (l := l + 1) (by omega)) (by omega) g2 p2
  obtain ⟨y4, g4, e4, m4, p4, s4⟩ := h1 n (b + 1 + 1 + 1) [.int 0, .int l, .int t] (by simp) (show 3 ≤ lim by decide) (by omega) g3 p3
  obtain ⟨u, rfl, u0, u1⟩ : ∃ u : Int, y4 = .int u ∧ 0 ≤ u ∧ u ≤ l := by
    simp only [List.mem_cons, List.not_mem_nil, or_false] at m4
    rcases m4 with rfl | rfl | rfl
    · exact ⟨0, rfl, by decide, by omega⟩
    · exact ⟨l, rfl, by omega, by omega⟩
    · exact ⟨t, rfl, by omega, by omega⟩
  have hl : l < 2 ^ 40 := by omega
  have e5 := h3 u l (by omega) (S9_40 hl)
  refine ⟨rt (mkRat u l), g4, ?_, ⟨_, rfl, mk_share u0 u1 (by omega) hl⟩, p4, ((s1.trans s2).trans s3).trans s4⟩
  have q2 : powD (.int 10) (.int 9) = ret (.int (10 ^ 9)) := rfl
  have e0 : fit [.int 1, .int 2, .int 3, .int 4, .int 10, .int (1 + r)] (ret (.tup [.int 1, .int 2, .int 3, .int 4, .int 10, .int (1 + r)])) = ret (.tup [.int 1, .int 2, .int 3, .int 4, .int 10, .int (1 + r)]) := if_pos (show 6 ≤ lim by decide)
  unfold B__law_share
  simp only [Int.reducePow] at e1 q2
  simp [bnd, q2, e1, e0, e2, e3, e4, e5]
theorem rng1_ok {w : Nat} (hw : w < 2 ^ 62) : rng1D [.int (w : Nat)] = ret (free ((List.range w).map fun k => D.int (k : Nat))) := by
  have hs : small62 (w : Nat) = true := by
    unfold small62
    rw [Int.natAbs_natCast]
    exact decide_eq_true hw
  show (if small62 (w : Nat) = true then ret (free ((List.range ((w : Nat) : Int).toNat).map fun k => D.int (k : Nat))) else bot) = _
  rw [if_pos hs, Int.toNat_natCast]
theorem six_62 {w : Nat} (h : w ≤ 6) : w < 2 ^ 62 := Nat.lt_of_le_of_lt h (by decide)
theorem light_ok (hc : IsDrw call f1 3 (QP CN)) {n b w : Nat} (hw : w ≤ 6) (h : b + 18 ≤ 10 ^ 9) : Drw n b (b + w * 3) (fun y => ∃ qs, y = row qs ∧ qs.length = w ∧ ∀ q ∈ qs, CN q) (runB (B__law_light call f1) [some (.ref n), some (.int (w : Nat)), none]) := fun g hg => by
  have hs := rng1_ok (six_62 hw)
  obtain ⟨y, g', e1, ⟨ys, rfl, hl, hy⟩, p1, s1⟩ := eComp_draw (n := n) (b := b) (c := 3) (Good := QP CN) (own := [2]) (wf := wRng1 (aCons (eVar 1) aNil)) (gf := gNm 2) (ef := eCB (call f1) (aCons (eVar 0) aNil)) (env := [some (.ref n), some (.int (w : Nat)), none]) (w := free ((List.range w).map fun k => D.int (k : Nat)))
    (by simp only [r_wRng1, r_aCons, r_aNil, r_eVar, List.getElem?_cons_zero, List.getElem?_cons_succ, bnd_ret, hs]) (fun _ => trivial) (by show ((List.range w).map fun k => D.int (k : Nat)).length ≤ lim; rw [List.length_map, List.length_range]; exact six_lim hw) (fun d hd b' hb1 hb2 => by
      have hb2 : b' + 3 ≤ b + ((List.range w).map fun k => D.int (k : Nat)).length * 3 := hb2
      rw [List.length_map, List.length_range] at hb2
      have := hc n b' (by omega)
      simpa [wipeE] using this) g hg
  have hl : ys.length = ((List.range w).map fun k => D.int (k : Nat)).length := hl
  have p1 : Pool n (b + ((List.range w).map fun k => D.int (k : Nat)).length * 3) g' := p1
  rw [List.length_map, List.length_range] at hl p1
  obtain ⟨qs, rfl, hq, hP⟩ := rts_of hy
  refine ⟨row qs, g', ?_, ⟨qs, rfl, by rw [hq, hl], hP⟩, p1, s1⟩
  unfold B__law_light
  simp only [r_runB, r_sSeq, r_sRt, r_eCB, r_aCons, r_bnd_bnd]
  rw [bnd_ok e1]
  simp only [r_aNil, bnd_ret, r_tupL, tup_rts, r_sNx, ret_at]
theorem surface_ok (hc : IsDrw call f1 4 (QP SHn)) {n b w : Nat} (hw : w ≤ 6) (h : b + 24 ≤ 10 ^ 9) : Drw n b (b + w * 4) (fun y => ∃ qs, y = row qs ∧ qs.length = w ∧ ∀ q ∈ qs, SHn q) (runB (B__law_surface call f1) [some (.ref n), some (.int (w : Nat)), none]) := fun g hg => by
  have hs := rng1_ok (six_62 hw)
  obtain ⟨y, g', e1, ⟨ys, rfl, hl, hy⟩, p1, s1⟩ := eComp_draw (n := n) (b := b) (c := 4) (Good := QP SHn) (own := [2]) (wf := wRng1 (aCons (eVar 1) aNil)) (gf := gNm 2) (ef := eCB (call f1) (aCons (eVar 0) aNil)) (env := [some (.ref n), some (.int (w : Nat)), none]) (w := free ((List.range w).map fun k => D.int (k : Nat)))
    (by simp only [r_wRng1, r_aCons, r_aNil, r_eVar, List.getElem?_cons_zero, List.getElem?_cons_succ, bnd_ret, hs]) (fun _ => trivial) (by show ((List.range w).map fun k => D.int (k : Nat)).length ≤ lim; rw [List.length_map, List.length_range]; exact six_lim hw) (fun d hd b' hb1 hb2 => by
      have hb2 : b' + 4 ≤ b + ((List.range w).map fun k => D.int (k : Nat)).length * 4 := hb2
      rw [List.length_map, List.length_range] at hb2
      have := hc n b' (by omega)
      simpa [wipeE] using this) g hg
  have hl : ys.length = ((List.range w).map fun k => D.int (k : Nat)).length := hl
  have p1 : Pool n (b + ((List.range w).map fun k => D.int (k : Nat)).length * 4) g' := p1
  rw [List.length_map, List.length_range] at hl p1
  obtain ⟨qs, rfl, hq, hP⟩ := rts_of hy
  refine ⟨row qs, g', ?_, ⟨qs, rfl, by rw [hq, hl], hP⟩, p1, s1⟩
  unfold B__law_surface
  simp only [r_runB, r_sSeq, r_sRt, r_eCB, r_aCons, r_bnd_bnd]
  rw [bnd_ok e1]
  simp only [r_aNil, bnd_ret, r_tupL, tup_rts, r_sNx, ret_at]
/-- any([each[0] > 0 for each in row]) -/
theorem comp_any {own : List Nat} {i j : Nat} {env : Env3} {qs : List Rat} (hi : env[i]? = some (some (row qs))) (hj : (wipeE env own).length > j) (hl : qs.length ≤ lim) :
    eCB (un anyD) (aCons (eComp own (wVal (eVar i)) (gNm j) fYes (eBin gtD (eBin idxD (eVar j) (eC (.int 0))) (eC (.int 0))) false) aNil) env = ret (.bl (qs.any fun q => decide (0 < q.num))) := by
  have e := eComp_map (own := own) (wf := wVal (eVar i)) (gf := gNm j) (ef := eBin gtD (eBin idxD (eVar j) (eC (.int 0))) (eC (.int 0))) (env := env) (ok := fun _ => True) (xs := qs) (mk := rt) (out := fun q => .bl (decide (0 < q.num))) (by simp [hi, free, rts]) (fun _ => trivial) hl fun q _ => by
    have : ((wipeE env own).set j (some (rt q)))[j]? = some (some (rt q)) := by rw [List.getElem?_set_self hj]
    simp [this]
  simp only [r_eCB, r_aCons, r_aNil, e, bnd_ret, r_bnd_bnd, any_map]
theorem any_nz {qs : List Rat} (hn : NN qs) (h : (qs.any fun q => decide (0 < q.num)) = true) : NZ qs := by
  obtain ⟨q, h1, h2⟩ := List.any_eq_true.mp h
  refine ⟨q, h1, fun z => ?_⟩
  rw [z] at h2
  exact absurd (of_decide_eq_true h2) (by decide)
theorem nz_any {qs : List Rat} (hn : NN qs) (h : NZ qs) : (qs.any fun q => decide (0 < q.num)) = true := by
  obtain ⟨q, h1, h2⟩ := h
  refine List.any_eq_true.mpr ⟨q, h1, decide_eq_true ?_⟩
  have h3 : 0 ≤ q.num := Rat.num_nonneg.mpr (hn q h1)
  have h4 : q.num ≠ 0 := fun z => h2 (Rat.num_eq_zero.mp z)
  omega
def LampD (w n : Nat) (y : D) : Prop := ∃ qs, y = row qs ∧ qs.length = w ∧ NN qs ∧ NZ qs ∧ SmL n qs
def IsLightD (call : Nat → List D → M D) (i : Nat) : Prop := ∀ n b w, w ≤ 6 → b + 18 ≤ 10 ^ 9 → Drw n b (b + w * 3) (fun y => ∃ qs, y = row qs ∧ qs.length = w ∧ ∀ q ∈ qs, CN q) (call i [.ref n, .int (w : Nat)])
theorem rts_rep (k : Nat) : (List.replicate k [rt 0]).flatten = rts (List.replicate k 0) := by
  induction k with
  | zero => rfl
  | succ k ih =>
    rw [List.replicate_succ, List.flatten_cons, ih, List.replicate_succ]
    rfl
theorem lamp_ok (h1 : IsLightD call f1) (h2 : IsBelow call f2) {n b w : Nat} (ha : 1 ≤ w) (hw : w ≤ 6) (h : b + 19 ≤ 10 ^ 9) : Drw n b (b + 19) (LampD w 40) (runB (B__law_lamp call f1 f2) [some (.ref n), some (.int (w : Nat)), none, none]) := fun g hg => by
  obtain ⟨y, g1, e1, ⟨qs, rfl, hl, hq⟩, p1, s1⟩ := h1 n b w hw (by omega) g hg
  have hn : NN qs := fun q hq' => (hq q hq').1
  have ec := comp_any (own := [3]) (i := 2) (j := 3) (env := [some (.ref n), some (.int (w : Nat)), some (row qs), none]) (qs := qs) rfl (by simp [wipeE]) (by rw [hl]; exact six_lim hw)
  by_cases ha' : (qs.any fun q => decide (0 < q.num)) = true
  · rw [ha'] at ec
    refine ⟨row qs, g1, ?_, ⟨qs, rfl, hl, hn, any_nz hn ha', fun q hq' => (hq q hq').2⟩, p1.mono (by omega), s1⟩
    unfold B__law_lamp
    simp only [r_runB, r_sSeq, r_sAs, r_sRt, r_eIf, r_tTr, r_bnd_bnd, r_gNm]
    simp only [r_eCB, r_aCons, r_aNil, r_eVar, List.getElem?_cons_zero, List.getElem?_cons_succ, bnd_ret]
    rw [bnd_ok e1]
    simp only [List.set_cons_zero, List.set_cons_succ, r_eCB, r_aCons, r_aNil, r_bnd_bnd, bnd_ret] at ec ⊢
    rw [← r_bnd_bnd, ec]
    simp
  · have ha'' : (qs.any fun q => decide (0 < q.num)) = false := by simpa using ha'
    rw [ha''] at ec
    obtain ⟨y2, g2, e2, ⟨r, rfl, r0, r1⟩, p2, s2⟩ := h2 n (b + w * 3) 3 (by decide) (S9_40 (l := 3) (by decide)) (by omega) g1 p1
    obtain ⟨k, rfl⟩ : ∃ k : Nat, r = k := ⟨r.toNat, by omega⟩
    have hk : k ≤ 2 := by omega
    obtain ⟨q1, hq1⟩ : ∃ q1 : Rat, q1 = ((1 + k : Nat) : Rat) := ⟨_, rfl⟩
    have er : D.tup [.int (1 + (k : Int)), .int 1] = rt q1 := by
      rw [hq1]
      unfold rt
      rw [Rat.num_natCast, Rat.den_natCast]
      simp
    refine ⟨row (q1 :: List.replicate (w - 1) 0), g2, ?_, ⟨_, rfl, by rw [List.length_cons, List.length_replicate]; omega, ?_, ⟨_, List.mem_cons_self .., ?_⟩, ?_⟩, p2.mono (by omega), s1.trans s2⟩
    · unfold B__law_lamp
      simp only [r_runB, r_sSeq, r_sAs, r_sRt, r_eIf, r_tTr, r_bnd_bnd, r_gNm]
      simp only [r_eCB, r_aCons, r_aNil, r_eVar, List.getElem?_cons_zero, List.getElem?_cons_succ, bnd_ret]
      rw [bnd_ok e1]
      simp only [List.set_cons_zero, List.set_cons_succ, r_eCB, r_aCons, r_aNil, r_bnd_bnd, bnd_ret] at ec ⊢
      rw [← r_bnd_bnd, ec]
      have m1 : mulD (.lst [rt 0]) (.int ((w : Int) - 1)) = ret (D.lst (rts (List.replicate (w - 1) 0))) := by
        show (if 0 ≤ ((w : Int) - 1) ∧ [rt 0].length * ((w : Int) - 1).toNat ≤ lim ∧ ((w : Int) - 1).toNat < 1000000 then ret (D.lst (List.replicate ((w : Int) - 1).toNat [rt 0]).flatten) else bot) = _
        have e : ((w : Int) - 1).toNat = w - 1 := by omega
        rw [if_pos ⟨by omega, by rw [e, List.length_singleton, Nat.one_mul]; exact Nat.le_trans (Nat.sub_le _ _) (six_lim hw), by omega⟩, e, rts_rep]
      have a1 : addD (.lst [rt q1]) (.lst (rts (List.replicate (w - 1) 0))) = ret (D.lst (rts (q1 :: List.replicate (w - 1) 0))) := by
        show (if [rt q1].length + (rts (List.replicate (w - 1) 0)).length ≤ lim then ret (D.lst ([rt q1] ++ rts (List.replicate (w - 1) 0))) else bot) = _
        rw [if_pos (by rw [rts_len, List.length_replicate, List.length_singleton]; exact Nat.le_trans (by omega) (six_lim hw))]
        rfl
      simp [bnd, e2, er, zero_rt, m1, a1, tup_rts]
    · intro q hq'
      rcases List.mem_cons.mp hq' with hx | hq'
      · rw [hx, hq1]
        exact Rat.natCast_nonneg
      · rw [(List.mem_replicate.mp hq').2]
        exact Rat.le_refl
    · intro z
      rw [hq1] at z
      have := congrArg Rat.num z
      rw [Rat.num_natCast] at this
      have : ((1 + k : Nat) : Int) = 0 := this
      omega
    · intro q hq'
      rcases List.mem_cons.mp hq' with hx | hq'
      · rw [hx, hq1]
        refine ⟨?_, ?_⟩
        · rw [Rat.num_natCast, Int.natAbs_natCast]
          exact Nat.lt_of_le_of_lt (show 1 + k ≤ 3 by omega) (by decide)
        · rw [Rat.den_natCast]
          decide
      · rw [(List.mem_replicate.mp hq').2]
        exact Sm.zero 39
end
end L3
set_option Elab.async false
set_option linter.all false
set_option maxRecDepth 100000
set_option maxHeartbeats 4000000
set_option exponentiation.threshold 100
namespace L3
open PySem
theorem forL_st {ok : G → Prop} {gf : GF} {body : SF} (hok : ∀ g, ok g) {Inv : Nat → Env3 → G → Prop} : ∀ {its : List D} {env : Env3} {j : Nat} {g : G}, (∀ (i : Nat) (d : D) (env : Env3) (g : G), its[i]? = some d → Inv (j + i) env g → ∃ env' g', bnd (gf d env) body g = .ok (.nx env') g' ∧ Inv (j + i + 1) env' g') → Inv j env g →
    ∃ env' g', forL ok gf body its env g = .ok (.nx env') g' ∧ Inv (j + its.length) env' g'
  | [], env, j, g, _, h => ⟨env, g, by unfold forL; rw [chk_ok hok]; rfl, h⟩
  | d :: its, env, j, g, hs, h => by
    obtain ⟨e1, g1, h1, h2⟩ := hs 0 d env g rfl h
    obtain ⟨e2, g2, h3, h4⟩ := forL_st hok (j := j + 1) (its := its) (env := e1) (g := g1) (fun i d' env' g' hd hi => by
      have := hs (i + 1) d' env' g' (by simpa using hd) (by have e : j + (i + 1) = j + 1 + i := by omega
                                                            rw [e]; exact hi)
      have e : j + (i + 1) + 1 = j + 1 + i + 1 := by omega
      rw [e] at this
      exact this) h2
    refine ⟨e2, g2, ?_, by have e : j + (its.length + 1) = j + 1 + its.length := by omega
                           rw [List.length_cons, e]; exact h4⟩
    unfold forL
    rw [chk_ok hok]
    refine (congrFun (bnd_assoc _ _ _).symm g).trans ?_
    rw [bnd_ok h1]
    exact h3
/-! ### rows as data -/
theorem pds_rts : ∀ qs : List Rat, toPDs (rts qs) = some (qs.map fun q => PyData.tuple [.int q.num, .int (q.den : Int)])
  | [] => rfl
  | q :: qs => by
    have ih := pds_rts qs
    show (match toPD (rt q), toPDs (rts qs) with
      | some x, some xs => some (x :: xs)
      | _, _ => none) = _
    rw [pd_rt, ih]
    rfl
def pdRow (qs : List Rat) : PyData := .tuple (qs.map fun q => PyData.tuple [.int q.num, .int (q.den : Int)])
theorem pd_row (qs : List Rat) : toPD (row qs) = some (pdRow qs) := by
  unfold row pdRow
  simp only [toPD, pds_rts, Option.map_some]
theorem pds_rows : ∀ rs : List (List Rat), toPDs (rs.map row) = some (rs.map pdRow)
  | [] => rfl
  | r :: rs => by
    have ih := pds_rows rs
    rw [List.map_cons, List.map_cons, toPDs, pd_row, ih]
theorem lay_row : ∀ qs : List Rat, PyData.canLayAll0 (qs.map fun q => PyData.tuple [.int q.num, .int (q.den : Int)]) = true ∧ PyData.depthAll (qs.map fun q => PyData.tuple [.int q.num, .int (q.den : Int)]) ≤ 1
  | [] => ⟨rfl, Nat.zero_le _⟩
  | q :: qs => by
    obtain ⟨h1, h2⟩ := lay_row qs
    rw [List.map_cons]
    constructor
    · rw [PyData.canLayAll0, h1]
      rfl
    · rw [PyData.depthAll]
      exact Nat.max_le.mpr ⟨by simp [PyData.depth, PyData.depthAll], h2⟩
theorem lay_rows : ∀ rs : List (List Rat), PyData.canLayAll0 (rs.map pdRow) = true ∧ PyData.depthAll (rs.map pdRow) ≤ 2
  | [] => ⟨rfl, Nat.zero_le _⟩
  | r :: rs => by
    obtain ⟨h1, h2⟩ := lay_rows rs
    obtain ⟨h3, h4⟩ := lay_row r
    rw [List.map_cons]
    constructor
    · rw [PyData.canLayAll0, h1]
      unfold pdRow
      rw [PyData.canLay0, h3]
      rfl
    · rw [PyData.depthAll]
      refine Nat.max_le.mpr ⟨?_, h2⟩
      unfold pdRow
      rw [PyData.depth]
      omega
theorem shaped_rows (rs : List (List Rat)) : SeqAt.shaped (.list (rs.map pdRow)) = true := by
  obtain ⟨h1, h2⟩ := lay_rows rs
  unfold SeqAt.shaped
  rw [PyData.canLay0, h1, PyData.depth, Bool.true_and, decide_eq_true_eq]
  omega
theorem shaped_row (r : List Rat) : SeqAt.shaped (pdRow r) = true := by
  obtain ⟨h1, h2⟩ := lay_row r
  unfold SeqAt.shaped pdRow
  rw [PyData.canLay0, h1, PyData.depth, Bool.true_and, decide_eq_true_eq]
  omega
theorem ne_nil_cell {c : Nat} {g : G} {rs : List (List Rat)} (h : g[c]? = some (.lst (rs.map row))) : neD (.ref c) (.lst []) g = .ok (.bl (!rs.isEmpty)) g := by
  unfold neD
  have e1 : deref (.ref c) g = .ok (.lst (rs.map row)) g := by
    rw [deref_ref, h]
  rw [bnd_ok e1, deref_lst, bnd_ret]
  have e2 : eqO (.lst (rs.map row)) (.lst []) = some rs.isEmpty := by
    unfold eqO
    have e3 : toPD (.lst (rs.map row)) = some (.list (rs.map pdRow)) := by
      simp only [toPD, pds_rows, Option.map_some]
    have e4 : toPD (.lst []) = some (.list []) := rfl
    rw [e3, e4]
    have s2 : SeqAt.shaped (.list []) = true := rfl
    simp only [shaped_rows, s2, and_self, if_true]
    cases rs with
    | nil => rfl
    | cons r rs => simp [PyData.eqv, PyData.eqvAll]
  rw [e2]
  rfl
/-! ### what holds no cell -/
theorem noRefs_of {n : Nat} : ∀ {ds : List D}, (∀ d ∈ ds, noRef n d = true) → noRefs n ds = true
  | [], _ => by simp only [noRefs]
  | d :: ds, h => by
    simp only [noRefs]
    rw [h d (List.mem_cons_self ..), noRefs_of fun d' hd => h d' (List.mem_cons_of_mem _ hd)]
    rfl
theorem noRef_rt (n : Nat) (q : Rat) : noRef n (rt q) = true := by
  unfold rt
  simp only [noRef, noRefs, Bool.and_self]
theorem noRef_row (n : Nat) (qs : List Rat) : noRef n (row qs) = true := by
  unfold row
  simp only [noRef]
  exact noRefs_of fun d hd => by
    obtain ⟨q, _, rfl⟩ := mem_rts hd
    exact noRef_rt n q
theorem noRef_rows (n : Nat) (rs : List (List Rat)) : noRefs n (rs.map row) = true := noRefs_of fun d hd => by
  obtain ⟨r, _, rfl⟩ := List.mem_map.mp hd
  exact noRef_row n r
/-- no cell holds a cell -/
def NoG (g : G) : Prop := ∀ (i : Nat) (c : Cell), g[i]? = some c → ∀ k, cellNo k c = true
theorem cellNo_pool (k : Nat) (a b c : Int) : cellNo k (.lst [.int a, .int b, .int c]) = true := by
  simp only [cellNo, noRefs, noRef, Bool.and_self]
theorem NoG.same {n b : Nat} {g g' : G} (h : NoG g) (hp : Pool n b g') (hs : Same n g g') : NoG g' := fun i c hi k => by
  by_cases e : i = n
  · obtain ⟨p0, p1, p2, h1, _⟩ := hp
    rw [e, h1] at hi
    cases hi
    exact cellNo_pool ..
  · rw [hs.2 i e] at hi
    exact h i c hi k
/-! ### the loop of the eye -/
def mixQ (a b : List Rat) : List Rat := List.zipWith (fun x y => x + 2 * y) a b
def darkQ (a : List Rat) (bs : List Bool) : List Rat := List.zipWith (fun q k => if k = true then 0 else q) a bs
theorem two_rt : D.tup [.int 2, .int 1] = rt 2 := rfl
theorem Sm2 : Sm 2 2 := ⟨by show 2 < 2 ^ 2; decide, by show 1 < 2 ^ 2; decide⟩
section
variable {call : Nat → List D → M D} {f1 f2 f3 f4 f5 : Nat}
theorem comp_mix (hp : IsPlus call f1) (ht : IsTimes call f2) {a b : List Rat} {m : Nat} (ha : SmL m a) (hb : SmL m b) (h : 2 * m + 2 ≤ 8999) (hl : a.length ≤ lim) {s0 s1 s2 s3 s4 s5 s6 s9 s10 s11 s12 s13 s14 : Option D} :
    eComp [13, 14] (wZip (aCons (eVar 7) (aCons (eVar 8) aNil))) (gTp 2 (gsCons (gNm 13) (gsCons (gNm 14) gsNil))) fYes (eCB (call f1) (aCons (eVar 13) (aCons (eCB (call f2) (aCons (eTup (aCons (eC (.int 2)) (aCons (eC (.int 1)) aNil))) (aCons (eVar 14) aNil))) aNil))) false [s0, s1, s2, s3, s4, s5, s6, some (row a), some (row b), s9, s10, s11, s12, s13, s14] = ret (.lst (rts (mixQ a b))) := by
  refine eComp_ret (w := ⟨(rts a).zipWith (fun p q => D.tup [p, q]) (rts b), fun _ => True ∧ True⟩) (by simp [zipD, free]) (fun _ => ⟨trivial, trivial⟩) ?_ ?_ fun j d y h1 h2 => ?_
  · show ((rts a).zipWith (fun p q => D.tup [p, q]) (rts b)).length ≤ lim
    rw [List.length_zipWith, rts_len]
    omega
  · show (rts (mixQ a b)).length = ((rts a).zipWith (fun p q => D.tup [p, q]) (rts b)).length
    simp [mixQ]
  · obtain ⟨p, q, qa, qb, rfl, _⟩ := zip_items a b j d h1
    have h2 : ((mixQ a b).map rt)[j]? = some y := h2
    rw [List.getElem?_map, mixQ, List.getElem?_zipWith, qa, qb] at h2
    cases h2
    have e1 := ht 2 q 2 m Sm2 (hb q (List.mem_of_getElem? qb)) (by omega)
    have e2 := hp p (2 * q) m (2 + m) (ha p (List.mem_of_getElem? qa)) (Sm2.mul (hb q (List.mem_of_getElem? qb))) (by omega)
    simp [wipeE, two_rt, e1, e2]
theorem comp_dark {a : List Rat} {bs : List Bool} (hl : a.length ≤ lim) {s0 s1 s2 s3 s5 s7 s8 s9 s10 s11 s12 s13 s14 : Option D} :
    eComp [11, 12] (wZip (aCons (eVar 6) (aCons (eVar 4) aNil))) (gTp 2 (gsCons (gNm 11) (gsCons (gNm 12) gsNil))) fYes (eIf (tTr (eVar 12)) (eTup (aCons (eC (.int 0)) (aCons (eC (.int 1)) aNil))) (eVar 11)) false [s0, s1, s2, s3, some (.lst (bs.map D.bl)), s5, some (row a), s7, s8, s9, s10, s11, s12, s13, s14] = ret (.lst (rts (darkQ a bs))) := by
  refine eComp_ret (w := ⟨(rts a).zipWith (fun p q => D.tup [p, q]) (bs.map D.bl), fun _ => True ∧ True⟩) (by simp [zipD, free]) (fun _ => ⟨trivial, trivial⟩) ?_ ?_ fun j d y h1 h2 => ?_
  · show ((rts a).zipWith (fun p q => D.tup [p, q]) (bs.map D.bl)).length ≤ lim
    rw [List.length_zipWith, rts_len]
    omega
  · show (rts (darkQ a bs)).length = ((rts a).zipWith (fun p q => D.tup [p, q]) (bs.map D.bl)).length
    simp [darkQ]
  · have h1 : ((rts a).zipWith (fun p q => D.tup [p, q]) (bs.map D.bl))[j]? = some d := h1
    obtain ⟨x, z, hx, hz, rfl⟩ := zip_get _ h1
    have hx : (a.map rt)[j]? = some x := hx
    rw [List.getElem?_map] at hx hz
    cases qa : a[j]? with
    | none => rw [qa] at hx; cases hx
    | some p =>
      cases qb : bs[j]? with
      | none => rw [qb] at hz; cases hz
      | some k =>
        rw [qa] at hx
        rw [qb] at hz
        cases hx
        cases hz
        have h2 : ((darkQ a bs).map rt)[j]? = some y := h2
        rw [List.getElem?_map, darkQ, List.getElem?_zipWith, qa, qb] at h2
        cases h2
        cases k <;> simp [wipeE, zero_rt]
theorem darkQ_len {a : List Rat} {bs : List Bool} {w : Nat} (h1 : a.length = w) (h2 : bs.length = w) : (darkQ a bs).length = w := by
  unfold darkQ
  rw [List.length_zipWith, h1, h2, Nat.min_self]
theorem darkQ_mem {a : List Rat} {bs : List Bool} {q : Rat} (h : q ∈ darkQ a bs) : q = 0 ∨ q ∈ a := by
  obtain ⟨x, k, h1, h2, h3⟩ := mem_zipWith h
  cases k
  · exact .inr (by rw [h3]; exact h1)
  · exact .inl h3
theorem mixQ_good {a b : List Rat} {w m : Nat} (h1 : a.length = w) (h2 : b.length = w) (n1 : NN a) (n2 : NN b) (z1 : NZ a) (s1 : SmL m a) (s2 : SmL m b) : (mixQ a b).length = w ∧ NN (mixQ a b) ∧ NZ (mixQ a b) ∧ SmL (2 * m + 3) (mixQ a b) := by
  refine ⟨by unfold mixQ; rw [List.length_zipWith, h1, h2, Nat.min_self], fun z hz => ?_, ?_, fun z hz => ?_⟩
  · obtain ⟨x, y, hx, hy, rfl⟩ := mem_zipWith hz
    exact Rat.add_nonneg (n1 x hx) (Rat.mul_nonneg (by decide) (n2 y hy))
  · obtain ⟨q, hq, hz⟩ := z1
    obtain ⟨i, hi, rfl⟩ := List.getElem_of_mem hq
    have hib : i < b.length := by omega
    refine ⟨a[i] + 2 * b[i], ?_, fun e => hz ?_⟩
    · have : (mixQ a b)[i]? = some (a[i] + 2 * b[i]) := by
        unfold mixQ
        rw [List.getElem?_zipWith, List.getElem?_eq_getElem hi, List.getElem?_eq_getElem hib]
      exact List.mem_of_getElem? this
    · have p1 := n1 a[i] hq
      have p2 : 0 ≤ 2 * b[i] := Rat.mul_nonneg (by decide) (n2 _ (List.getElem_mem hib))
      refine Rat.le_antisymm ?_ p1
      have : a[i] + 0 ≤ a[i] + 2 * b[i] := Rat.add_le_add_left.mpr p2
      rw [Rat.add_zero, e] at this
      exact this
  · obtain ⟨x, y, hx, hy, rfl⟩ := mem_zipWith hz
    exact ((s1 x hx).add (Sm2.mul (s2 y hy))).mono (by omega)
end
end L3
set_option Elab.async false
set_option linter.all false
set_option maxRecDepth 100000
set_option maxHeartbeats 4000000
set_option exponentiation.threshold 100
namespace L3
open PySem
def Bd : Nat → Nat
  | 0 => 40
  | n + 1 => 2 * Bd n + 3
theorem Bd40 : ∀ n, 40 ≤ Bd n
  | 0 => Nat.le_refl _
  | n + 1 => by
    have := Bd40 n
    unfold Bd
    omega
def RowG (w B : Nat) (r : List Rat) : Prop := r.length = w ∧ NN r ∧ NZ r ∧ SmL B r
theorem SmL.mono {m n : Nat} {qs : List Rat} (h : SmL m qs) (hn : m ≤ n) : SmL n qs := fun q hq => (h q hq).mono hn
theorem RowG.mono {w B B' : Nat} {r : List Rat} (h : RowG w B r) (hb : B ≤ B') : RowG w B' r := ⟨h.1, h.2.1, h.2.2.1, h.2.2.2.mono hb⟩
section
variable {call : Nat → List D → M D} {f1 f2 f3 f4 f5 : Nat}
def IsOneC (call : Nat → List D → M D) (i : Nat) : Prop := ∀ (n m b : Nat) (ds : List D) (g : G), m ≠ n → g[m]? = some (.lst ds) → ds ≠ [] → ds.length ≤ lim → b ≤ 10 ^ 9 → Pool n b g →
  ∃ y g', call i [.ref n, .ref m] g = .ok y g' ∧ y ∈ ds ∧ Pool n (b + 1) g' ∧ Same n g g'
def IsLamp (call : Nat → List D → M D) (i : Nat) : Prop := ∀ n b w, 1 ≤ w → w ≤ 6 → b + 19 ≤ 10 ^ 9 → Drw n b (b + 19) (LampD w 40) (call i [.ref n, .int (w : Nat)])
noncomputable def eyS2 (call : Nat → List D → M D) (f1 f3 f4 f5 : Nat) : SF := sIf (fAnd (tBl (eBin neD (eVar 3) (eLst aNil))) (tBl (eBin eqD (eCB (call f1) (aCons (eVar 0) (aCons (eC (.int 3)) aNil))) (eC (.int 0))))) (sSeq (sP2 7 8 (aCons (eCB (call f3) (aCons (eVar 0) (aCons (eVar 3) aNil))) (aCons (eCB (call f3) (aCons (eVar 0) (aCons (eVar 3) aNil))) aNil))) (sSeq (sAs (eCB (un tupD) (aCons (eComp [13, 14] (wZip (aCons (eVar 7) (aCons (eVar 8) aNil))) (gTp 2 (gsCons (gNm 13) (gsCons (gNm 14) gsNil))) fYes (eCB (call f4) (aCons (eVar 13) (aCons (eCB (call f5) (aCons (eTup (aCons (eC (.int 2)) (aCons (eC (.int 1)) aNil))) (aCons (eVar 14) aNil))) aNil))) false) aNil)) (gNm 6)) (sNx))) (sNx)
theorem eye_s2 (hb : IsBelow call f1) (ho : IsOneC call f3) (hp : IsPlus call f4) (ht : IsTimes call f5) {g : G} {n c b w B : Nat} (hcn : c ≠ n) {rs : List (List Rat)} {a : List Rat} (hc : g[c]? = some (.lst (rs.map row))) (hrs : ∀ r ∈ rs, RowG w B r) (hB : B ≤ 4000) (h40 : 40 ≤ B) (ha : RowG w 40 a) (hl : rs.length ≤ 4) (hw : w ≤ 6) (hg : Pool n b g) (hbb : b + 3 ≤ 10 ^ 9) {s1 s2 s4 s5 s7 s8 s9 s10 s11 s12 s13 s14 : Option D} :
    ∃ a' s7' s8' g', eyS2 call f1 f3 f4 f5 [some (.ref n), s1, s2, some (.ref c), s4, s5, some (row a), s7, s8, s9, s10, s11, s12, s13, s14] g = .ok (.nx [some (.ref n), s1, s2, some (.ref c), s4, s5, some (row a'), s7', s8', s9, s10, s11, s12, s13, s14]) g' ∧ RowG w (2 * B + 3) a' ∧ Pool n (b + 3) g' ∧ Same n g g' := by
  have e0 := ne_nil_cell hc
  by_cases hr : rs = []
  · subst hr
    refine ⟨a, s7, s8, g, ?_, ha.mono (by omega), hg.mono (by omega), Same.refl _ _⟩
    have e0 : neD (.ref c) (.lst []) g = .ok (.bl false) g := e0
    unfold eyS2
    simp [bnd, e0]
  · have hr' : rs.isEmpty = false := by simpa using hr
    rw [hr'] at e0
    have e0 : neD (.ref c) (.lst []) g = .ok (.bl true) g := e0
    obtain ⟨y1, g1, e1, ⟨r, rfl, r0, r1⟩, p1, q1⟩ := hb n b 3 (by decide) (S9_40 (l := 3) (by decide)) (by omega) g hg
    by_cases hr0 : r = 0
    · have hne : rs.map row ≠ [] := by simpa using hr
      have hlen : (rs.map row).length ≤ lim := by rw [List.length_map]; exact four_lim hl
      have hc1 : g1[c]? = some (.lst (rs.map row)) := by rw [q1.2 c hcn]; exact hc
      obtain ⟨y2, g2, e2, m2, p2, q2⟩ := ho n c (b + 1) _ g1 hcn hc1 hne hlen (by omega) p1
      have hc2 : g2[c]? = some (.lst (rs.map row)) := by rw [q2.2 c hcn]; exact hc1
      obtain ⟨y3, g3, e3, m3, p3, q3⟩ := ho n c (b + 1 + 1) _ g2 hcn hc2 hne hlen (by omega) p2
      obtain ⟨u, hu, rfl⟩ := List.mem_map.mp m2
      obtain ⟨v, hv, rfl⟩ := List.mem_map.mp m3
      obtain ⟨u1, u2, u3, u4⟩ := hrs u hu
      obtain ⟨v1, v2, v3, v4⟩ := hrs v hv
      have em := comp_mix hp ht u4 v4 (by omega) (by rw [u1]; exact six_lim hw) (s0 := some (.ref n)) (s1 := s1) (s2 := s2) (s3 := some (.ref c)) (s4 := s4) (s5 := s5) (s6 := some (row a)) (s9 := s9) (s10 := s10) (s11 := s11) (s12 := s12) (s13 := s13) (s14 := s14)
      refine ⟨mixQ u v, some (row u), some (row v), g3, ?_, mixQ_good u1 v1 u2 v2 u3 u4 v4, p3.mono (by omega), (q1.trans q2).trans q3⟩
      subst hr0
      unfold eyS2
      simp [bnd, e0, e1, e2, e3, em, tup_rts]
    · have hr0' : (r == 0) = false := by simpa using hr0
      refine ⟨a, s7, s8, g1, ?_, ha.mono (by omega), p1.mono (by omega), q1⟩
      unfold eyS2
      simp [bnd, e0, e1, hr0']
noncomputable def eyS4 : SF := sEx (eApp (eVar 3) (eIf (tTr (eCB (un anyD) (aCons (eComp [11] (wVal (eVar 9)) (gNm 11) fYes (eBin gtD (eBin idxD (eVar 11) (eC (.int 0))) (eC (.int 0))) false) aNil))) (eVar 9) (eVar 6)))
theorem app_cell {c : Nat} {g : G} {ds : List D} {x : D} (h : g[c]? = some (.lst ds)) (hl : ds.length < lim) : appD (.ref c) x g = .ok .non (g.set c (.lst (ds ++ [x]))) := by
  unfold appD
  dsimp only
  rw [h]
  dsimp only
  rw [if_pos hl]
theorem cellQ_at {α : Type} {c : Nat} {g : G} {ds : List D} (h : g[c]? = some (.lst ds)) (k : M α) : cellQ (.ref c) k g = k g := by
  unfold cellQ
  dsimp only
  rw [h]
theorem eye_s4 {g : G} {c w B : Nat} {rs : List (List Rat)} {a s : List Rat} (hc : g[c]? = some (.lst (rs.map row))) (ha : RowG w B a) (hs : s.length = w) (hm : ∀ q ∈ s, q = 0 ∨ q ∈ a) (hB : 1 ≤ B) (hl : rs.length ≤ 4) (hw : w ≤ 6) {s0 s1 s2 s4 s5 s7 s8 s10 s11 s12 s13 s14 : Option D} :
    ∃ t, RowG w B t ∧ eyS4 [s0, s1, s2, some (.ref c), s4, s5, some (row a), s7, s8, some (row s), s10, s11, s12, s13, s14] g = .ok (.nx [s0, s1, s2, some (.ref c), s4, s5, some (row a), s7, s8, some (row s), s10, s11, s12, s13, s14]) (g.set c (.lst ((rs ++ [t]).map row))) := by
  have ec := comp_any (own := [11]) (i := 9) (j := 11) (env := [s0, s1, s2, some (.ref c), s4, s5, some (row a), s7, s8, some (row s), s10, s11, s12, s13, s14]) (qs := s) rfl (by simp [wipeE]) (by rw [hs]; exact six_lim hw)
  have hn : NN s := fun q hq => by
    rcases hm q hq with rfl | h
    · exact Rat.le_refl
    · exact ha.2.1 q h
  have hlen : (rs.map row).length < lim := by rw [List.length_map]; exact Nat.lt_of_le_of_lt hl (by decide)
  by_cases h : (s.any fun q => decide (0 < q.num)) = true
  · rw [h] at ec
    refine ⟨s, ⟨hs, hn, any_nz hn h, fun q hq => ?_⟩, ?_⟩
    · rcases hm q hq with rfl | h
      · exact (Sm.zero 0).mono hB
      · exact ha.2.2.2 q h
    · have e1 := app_cell (x := row s) hc hlen
      have e3 : eIf (tTr (eCB (un anyD) (aCons (eComp [11] (wVal (eVar 9)) (gNm 11) fYes (eBin gtD (eBin idxD (eVar 11) (eC (.int 0))) (eC (.int 0))) false) aNil))) (eVar 9) (eVar 6) [s0, s1, s2, some (.ref c), s4, s5, some (row a), s7, s8, some (row s), s10, s11, s12, s13, s14] = ret (row s) := by
        rw [r_eIf, r_tTr, ec]
        simp
      unfold eyS4
      rw [r_sEx]
      unfold eApp
      simp only [e3, r_eVar, List.getElem?_cons_zero, List.getElem?_cons_succ, bnd_ret]
      have e2 : cellQ (.ref c) (appD (.ref c) (row s)) g = .ok .non (g.set c (.lst (rs.map row ++ [row s]))) := by
        rw [cellQ_at hc, e1]
      rw [bnd_ok e2, List.map_append]
      rfl
  · have h' : (s.any fun q => decide (0 < q.num)) = false := by simpa using h
    rw [h'] at ec
    refine ⟨a, ha, ?_⟩
    have e1 := app_cell (x := row a) hc hlen
    have e3 : eIf (tTr (eCB (un anyD) (aCons (eComp [11] (wVal (eVar 9)) (gNm 11) fYes (eBin gtD (eBin idxD (eVar 11) (eC (.int 0))) (eC (.int 0))) false) aNil))) (eVar 9) (eVar 6) [s0, s1, s2, some (.ref c), s4, s5, some (row a), s7, s8, some (row s), s10, s11, s12, s13, s14] = ret (row a) := by
      rw [r_eIf, r_tTr, ec]
      simp
    unfold eyS4
    rw [r_sEx]
    unfold eApp
    simp only [e3, r_eVar, List.getElem?_cons_zero, List.getElem?_cons_succ, bnd_ret]
    have e2 : cellQ (.ref c) (appD (.ref c) (row a)) g = .ok .non (g.set c (.lst (rs.map row ++ [row a]))) := by
      rw [cellQ_at hc, e1]
    rw [bnd_ok e2, List.map_append]
    rfl
noncomputable def eyS3 : SF := sAs (eCB (un tupD) (aCons (eComp [11, 12] (wZip (aCons (eVar 6) (aCons (eVar 4) aNil))) (gTp 2 (gsCons (gNm 11) (gsCons (gNm 12) gsNil))) fYes (eIf (tTr (eVar 12)) (eTup (aCons (eC (.int 0)) (aCons (eC (.int 1)) aNil))) (eVar 11)) false) aNil)) (gNm 9)
noncomputable def eyB (call : Nat → List D → M D) (f1 f2 f3 f4 f5 : Nat) : SF := sSeq (sAs (eCB (call f2) (aCons (eVar 0) (aCons (eVar 1) aNil))) (gNm 6)) (sSeq (eyS2 call f1 f3 f4 f5) (sSeq eyS3 (sSeq eyS4 (sNx))))
theorem bnd_at {α β : Type} {m : M α} {k : α → M β} {g g' : G} {x : α} {r : R β} (h : m g = .ok x g') (h2 : k x g' = r) : bnd m k g = r := (bnd_ok h).trans h2
theorem seq_at {f k : SF} {env env' : Env3} {g g' : G} {r : R FR} (h : f env g = .ok (.nx env') g') (h2 : k env' g' = r) : sSeq f k env g = r := by
  rw [r_sSeq]
  exact bnd_at h h2
def EyeInv (g0 : G) (n b w c : Nat) (most : D) (bs : List Bool) (j : Nat) (env : Env3) (g : G) : Prop :=
  (∃ s5 s6 s7 s8 s9 s10 s11 s12 s13 s14, env = [some (.ref n), some (.int (w : Nat)), some most, some (.ref c), some (.lst (bs.map D.bl)), s5, s6, s7, s8, s9, s10, s11, s12, s13, s14]) ∧ g.length = c + 1 ∧ Pool n (b + 22 * j) g ∧ (∀ i, i ≠ n → i ≠ c → g[i]? = g0[i]?) ∧ ∃ rs : List (List Rat), g[c]? = some (.lst (rs.map row)) ∧ rs.length = j ∧ ∀ r ∈ rs, RowG w (Bd j) r
theorem Pool.set_ne {n b c : Nat} {g : G} {x : Cell} (h : Pool n b g) (hc : c ≠ n) : Pool n b (g.set c x) := by
  obtain ⟨p0, p1, p2, h1, h2⟩ := h
  exact ⟨p0, p1, p2, by rw [List.getElem?_set_ne hc]; exact h1, h2⟩
theorem eye_step (hb : IsBelow call f1) (hlp : IsLamp call f2) (ho : IsOneC call f3) (hp : IsPlus call f4) (ht : IsTimes call f5) {g0 g : G} {n b w c j : Nat} {most d : D} {bs : List Bool} {env : Env3} (hcn : c ≠ n) (hw1 : 1 ≤ w) (hw : w ≤ 6) (hbs : bs.length = w) (hj : j ≤ 3) (hbb : b + 90 ≤ 10 ^ 9) (hi : EyeInv g0 n b w c most bs j env g) :
    ∃ env' g', bnd (gNm 5 d env) (eyB call f1 f2 f3 f4 f5) g = .ok (.nx env') g' ∧ EyeInv g0 n b w c most bs (j + 1) env' g' := by
  obtain ⟨⟨s5, s6, s7, s8, s9, s10, s11, s12, s13, s14, rfl⟩, hlen, hpool, hsame, rs, hc, hrl, hrs⟩ := hi
  obtain ⟨y1, g1, e1, ⟨a, rfl, a1, a2, a3, a4⟩, p1, q1⟩ := hlp n (b + 22 * j) w hw1 hw (by omega) g hpool
  have hc1 : g1[c]? = some (.lst (rs.map row)) := by rw [q1.2 c hcn]; exact hc
  have hBd : Bd j ≤ 4000 := by
    have : Bd j ≤ Bd 3 := by
      rcases j with _ | _ | _ | _ | j
      · decide
      · decide
      · decide
      · decide
      · omega
    exact Nat.le_trans this (by decide)
  obtain ⟨a', s7', s8', g2, e2, r2, p2, q2⟩ := eye_s2 hb ho hp ht hcn hc1 hrs hBd (Bd40 j) ⟨a1, a2, a3, a4⟩ (by omega) hw p1 (by omega) (s1 := some (.int (w : Nat))) (s2 := some most) (s4 := some (.lst (bs.map D.bl))) (s5 := some d) (s7 := s7) (s8 := s8) (s9 := s9) (s10 := s10) (s11 := s11) (s12 := s12) (s13 := s13) (s14 := s14)
  have hc2 : g2[c]? = some (.lst (rs.map row)) := by rw [q2.2 c hcn]; exact hc1
  have ed := comp_dark (bs := bs) (a := a') (by rw [r2.1]; exact six_lim hw) (s0 := some (.ref n)) (s1 := some (.int (w : Nat))) (s2 := some most) (s3 := some (.ref c)) (s5 := some d) (s7 := s7') (s8 := s8') (s9 := s9) (s10 := s10) (s11 := s11) (s12 := s12) (s13 := s13) (s14 := s14)
  obtain ⟨t, r4, e4⟩ := eye_s4 hc2 r2 (darkQ_len r2.1 hbs) (fun q hq => darkQ_mem hq) (by omega) (by omega) hw (s0 := some (.ref n)) (s1 := some (.int (w : Nat))) (s2 := some most) (s4 := some (.lst (bs.map D.bl))) (s5 := some d) (s7 := s7') (s8 := s8') (s10 := s10) (s11 := s11) (s12 := s12) (s13 := s13) (s14 := s14)
  refine ⟨[some (.ref n), some (.int (w : Nat)), some most, some (.ref c), some (.lst (bs.map D.bl)), some d, some (row a'), s7', s8', some (row (darkQ a' bs)), s10, s11, s12, s13, s14], g2.set c (.lst ((rs ++ [t]).map row)), ?_, ⟨some d, some (row a'), s7', s8', some (row (darkQ a' bs)), s10, s11, s12, s13, s14, rfl⟩, ?_, ?_, fun i h1 h2 => ?_, rs ++ [t], at_set hc2, by rw [List.length_append, hrl]; rfl, fun r hr => ?_⟩
  · rw [r_gNm, bnd_ret]
    unfold eyB
    refine seq_at (env' := [some (.ref n), some (.int (w : Nat)), some most, some (.ref c), some (.lst (bs.map D.bl)), some d, some (row a), s7, s8, s9, s10, s11, s12, s13, s14]) (g' := g1) ?_ (seq_at e2 (seq_at (env' := [some (.ref n), some (.int (w : Nat)), some most, some (.ref c), some (.lst (bs.map D.bl)), some d, some (row a'), s7', s8', some (row (darkQ a' bs)), s10, s11, s12, s13, s14]) (g' := g2) ?_ (seq_at e4 rfl)))
    · simp [bnd, e1]
    · unfold eyS3
      rw [r_sAs, r_eCB, r_aCons, ed]
      simp [bnd, tup_rts]
  · rw [List.length_set, q2.1, q1.1, hlen]
  · exact (p2.mono (by omega)).set_ne hcn
  · rw [List.getElem?_set_ne (Ne.symm h2), q2.2 i h1, q1.2 i h1]
    exact hsame i h1 h2
  · rcases List.mem_append.mp hr with h | h
    · exact (hrs r h).mono (by show Bd j ≤ 2 * Bd j + 3; omega)
    · rw [List.mem_singleton.mp h]
      exact r4
end
end L3
set_option Elab.async false
set_option linter.all false
set_option maxRecDepth 100000
set_option maxHeartbeats 4000000
set_option exponentiation.threshold 100
namespace L3
open PySem
section
variable {call : Nat → List D → M D} {f1 f2 f3 f4 f5 : Nat}
def IsEye (call : Nat → List D → M D) (i : Nat) : Prop := ∀ (n b w m : Nat), 1 ≤ w → w ≤ 6 → 1 ≤ m → m ≤ 4 → b + 100 ≤ 10 ^ 9 → ∀ g, Pool n b g → NoG g →
  ∃ rs g', call i [.ref n, .int (w : Nat), .int (m : Nat)] g = .ok (eyeD rs) g' ∧ Eye w rs ∧ (∀ r ∈ rs, SmL 685 r) ∧ Pool n (b + 100) g' ∧ Same n g g'
theorem bls_of : ∀ {ys : List D}, (∀ z ∈ ys, ∃ k, z = D.bl k) → ∃ bs : List Bool, ys = bs.map D.bl ∧ bs.length = ys.length
  | [], _ => ⟨[], rfl, rfl⟩
  | y :: ys, h => by
    obtain ⟨k, rfl⟩ := h y (List.mem_cons_self ..)
    obtain ⟨bs, rfl, hl⟩ := bls_of (ys := ys) fun z hz => h z (List.mem_cons_of_mem _ hz)
    exact ⟨k :: bs, rfl, by rw [List.length_cons, List.length_cons, hl]⟩
theorem take_at {n c : Nat} {g : G} (h : n < c) : (g.take c)[n]? = g[n]? := by
  rw [List.getElem?_take, if_pos h]
theorem fin_tup {m : M D} {g g4 : G} {ds : List D} {n b : Nat} (hn : n < g.length) (h : m g = .ok (.tup ds) g4) (hl : g4.length = g.length + 1) (hd : noRefs g.length ds = true) (hg : NoG g) (hp : Pool n b g4) (hs : ∀ i, i ≠ n → i ≠ g.length → g4[i]? = g[i]?) :
    fin m g = .ok (.tup ds) (g4.take g.length) ∧ Pool n b (g4.take g.length) ∧ Same n g (g4.take g.length) := by
  refine ⟨?_, ?_, ?_, fun i hi => ?_⟩
  · have ha : (List.take g.length g4).all (cellNo g.length) = true := by
      rw [List.all_eq_true]
      intro x hx
      obtain ⟨i, hi⟩ := List.getElem?_of_mem hx
      have hi1 : i < g.length := by
        have := (List.getElem?_eq_some_iff.mp hi).1
        rw [List.length_take] at this
        omega
      rw [take_at hi1] at hi
      by_cases e : i = n
      · obtain ⟨p0, p1, p2, h1, _⟩ := hp
        rw [e, h1] at hi
        cases hi
        exact cellNo_pool ..
      · rw [hs i e (by omega)] at hi
        exact hg i x hi _
    have hne : ¬ g4.length = g.length := by omega
    have hf : frzD g.length g4 (.tup ds) = some (.tup ds) := rfl
    have hr : (noRef g.length (.tup ds) && (List.take g.length g4).all (cellNo g.length)) = true := by
      rw [ha, Bool.and_true]
      simp only [noRef]
      exact hd
    unfold fin
    rw [h]
    dsimp only
    rw [if_neg hne, hf]
    dsimp only
    rw [if_pos hr]
  · obtain ⟨p0, p1, p2, h1, h2⟩ := hp
    exact ⟨p0, p1, p2, by rw [take_at hn]; exact h1, h2⟩
  · rw [List.length_take]
    omega
  · by_cases h1 : i < g.length
    · rw [take_at h1]
      exact hs i hi (by omega)
    · rw [List.getElem?_eq_none (by rw [List.length_take]; omega), List.getElem?_eq_none (by omega)]
noncomputable def eyC (call : Nat → List D → M D) (f1 : Nat) : EF := eComp [10] (wRng1 (aCons (eVar 1) aNil)) (gNm 10) fYes (eBin eqD (eCB (call f1) (aCons (eVar 0) (aCons (eC (.int 6)) aNil))) (eC (.int 0))) false
noncomputable def eyW (call : Nat → List D → M D) (f1 : Nat) : WF := wRng1 (aCons (eBin addD (eC (.int 1)) (eCB (call f1) (aCons (eVar 0) (aCons (eVar 2) aNil)))) aNil)
theorem eye_eq : B__law_eye call f1 f2 f3 f4 f5 = sSeq (sP2 3 4 (aCons (eNew aNil) (aCons (eyC call f1) aNil))) (sSeq (sFor (eyW call f1) (gNm 5) (eyB call f1 f2 f3 f4 f5)) (sSeq (sRt (eCB (un tupD) (aCons (eVar 3) aNil))) (sNx))) := rfl
theorem tup_cell {c : Nat} {g : G} {ds : List D} (h : g[c]? = some (.lst ds)) : un tupD [.ref c] g = .ok (.tup ds) g := by
  unfold un tupD
  dsimp only
  have e1 : deref (.ref c) g = .ok (.lst ds) g := by
    rw [deref_ref, h]
  rw [bnd_ok e1]
  rfl
theorem eye_ok (hb : IsBelow call f1) (hlp : IsLamp call f2) (ho : IsOneC call f3) (hp : IsPlus call f4) (ht : IsTimes call f5) {n b w m : Nat} (hw1 : 1 ≤ w) (hw : w ≤ 6) (hm1 : 1 ≤ m) (hm : m ≤ 4) (hbb : b + 100 ≤ 10 ^ 9) {g : G} (hg : Pool n b g) (hng : NoG g) :
    ∃ rs g', fin (runB (B__law_eye call f1 f2 f3 f4 f5) [some (.ref n), some (.int (w : Nat)), some (.int (m : Nat)), none, none, none, none, none, none, none, none, none, none, none, none]) g = .ok (eyeD rs) g' ∧ Eye w rs ∧ (∀ r ∈ rs, SmL 685 r) ∧ Pool n (b + 100) g' ∧ Same n g g' := by
  have hn : n < g.length := by
    obtain ⟨_, _, _, h1, _⟩ := hg
    exact (List.getElem?_eq_some_iff.mp h1).1
  obtain ⟨c, hc⟩ : ∃ c, c = g.length := ⟨_, rfl⟩
  obtain ⟨g1, hg1⟩ : ∃ g1 : G, g1 = g ++ [.lst []] := ⟨_, rfl⟩
  have hl1 : g1.length = c + 1 := by rw [hg1, List.length_append, hc]; rfl
  have hs1 : ∀ i, i ≠ c → g1[i]? = g[i]? := fun i hi => by
    rw [hg1]
    by_cases h : i < g.length
    · rw [List.getElem?_append_left h]
    · rw [List.getElem?_eq_none (by rw [List.length_append, List.length_singleton]; omega), List.getElem?_eq_none (by omega)]
  have hc1 : g1[c]? = some (.lst []) := by
    rw [hg1, hc, List.getElem?_append_right (Nat.le_refl _), Nat.sub_self]
    rfl
  have hcn : c ≠ n := by omega
  have p1 : Pool n b g1 := by
    obtain ⟨p0, p1, p2, h1, h2⟩ := hg
    exact ⟨p0, p1, p2, by rw [hs1 n (Ne.symm hcn)]; exact h1, h2⟩
  have hr := rng1_ok (six_62 hw)
  have e0 : ∀ env, eNew aNil env g = .ok (.ref c) g1 := fun env => by
    rw [r_eNew, r_aNil, bnd_ret, fit0, hc, hg1]
    rfl
  obtain ⟨y, g2, e2, ⟨ys, rfl, hl, hy⟩, p2, s2⟩ := eComp_draw (n := n) (b := b) (c := 1) (Good := fun y => ∃ k, y = D.bl k) (own := [10]) (wf := wRng1 (aCons (eVar 1) aNil)) (gf := gNm 10) (ef := eBin eqD (eCB (call f1) (aCons (eVar 0) (aCons (eC (.int 6)) aNil))) (eC (.int 0))) (env := [some (.ref n), some (.int (w : Nat)), some (.int (m : Nat)), none, none, none, none, none, none, none, none, none, none, none, none]) (w := free ((List.range w).map fun k => D.int (k : Nat)))
    (by simp only [r_wRng1, r_aCons, r_aNil, r_eVar, List.getElem?_cons_zero, List.getElem?_cons_succ, bnd_ret, hr]) (fun _ => trivial) (by show ((List.range w).map fun k => D.int (k : Nat)).length ≤ lim; rw [List.length_map, List.length_range]; exact six_lim hw) (fun d hd b' hb1 hb2 => by
      have hb2 : b' + 1 ≤ b + ((List.range w).map fun k => D.int (k : Nat)).length * 1 := hb2
      rw [List.length_map, List.length_range] at hb2
      intro h hh
      obtain ⟨y, h', q1, ⟨r, rfl, r0, r1⟩, q2, q3⟩ := hb n b' 6 (by decide) (S9_40 (l := 6) (by decide)) (by omega) h hh
      refine ⟨.bl (r == 0), h', ?_, ⟨_, rfl⟩, q2, q3⟩
      simp [wipeE, bnd, q1]) g1 p1
  have hl : ys.length = ((List.range w).map fun k => D.int (k : Nat)).length := hl
  have p2 : Pool n (b + ((List.range w).map fun k => D.int (k : Nat)).length * 1) g2 := p2
  rw [List.length_map, List.length_range] at hl p2
  obtain ⟨bs, rfl, hbl⟩ := bls_of hy
  rw [hl] at hbl
  have e2 : eyC call f1 [some (.ref n), some (.int (w : Nat)), some (.int (m : Nat)), none, none, none, none, none, none, none, none, none, none, none, none] g1 = .ok (.lst (bs.map D.bl)) g2 := e2
  obtain ⟨y3, g3, e3, ⟨r, rfl, r0, r1⟩, p3, s3⟩ := hb n (b + w * 1) (m : Nat) (by omega) (S9_40 (l := m) (Nat.lt_of_le_of_lt hm (by decide))) (by omega) g2 p2
  obtain ⟨k, rfl⟩ : ∃ k : Nat, r = k := ⟨r.toNat, by omega⟩
  have hk : 1 + k ≤ 4 := by omega
  have hs3 : Same n g1 g3 := s2.trans s3
  have hw4 : rng1D [.int (1 + (k : Int))] = ret (free ((List.range (1 + k)).map fun j => D.int (j : Nat))) := by
    have := rng1_ok (w := 1 + k) (Nat.lt_of_le_of_lt hk (by decide))
    rw [Int.natCast_add, Int.natCast_one] at this
    exact this
  obtain ⟨env4, g4, e4, ⟨t5, t6, t7, t8, t9, t10, t11, t12, t13, t14, rfl⟩, l4, p4, s4, rs, c4, n4, r4⟩ := forL_st (ok := fun _ => True) (gf := gNm 5) (body := eyB call f1 f2 f3 f4 f5) (fun _ => trivial) (Inv := EyeInv g n (b + w * 1 + 1) w c (.int (m : Nat)) bs) (its := (List.range (1 + k)).map fun j => D.int (j : Nat)) (env := [some (.ref n), some (.int (w : Nat)), some (.int (m : Nat)), some (.ref c), some (.lst (bs.map D.bl)), none, none, none, none, none, none, none, none, none, none]) (j := 0) (g := g3) (fun i d env g' hd hi => by
      have hi4 : i < 1 + k := by
        have := (List.getElem?_eq_some_iff.mp hd).1
        rw [List.length_map, List.length_range] at this
        exact this
      have hi5 : b + w * 1 + 1 + 22 * (0 + i) + 22 ≤ b + 100 := by omega
      exact eye_step hb hlp ho hp ht hcn hw1 hw hbl (by omega) (by omega) hi) ⟨⟨none, none, none, none, none, none, none, none, none, none, rfl⟩, by rw [hs3.1, hl1], p3, fun i h1 h2 => by rw [hs3.2 i h1, hs1 i h2], [], by rw [hs3.2 c hcn]; exact hc1, rfl, fun r hr => by cases hr⟩
  rw [Nat.zero_add, List.length_map, List.length_range] at n4 p4 r4
  have ht4 := tup_cell c4
  have hrun : runB (B__law_eye call f1 f2 f3 f4 f5) [some (.ref n), some (.int (w : Nat)), some (.int (m : Nat)), none, none, none, none, none, none, none, none, none, none, none, none] g = .ok (.tup (rs.map row)) g4 := by
    rw [eye_eq, r_runB]
    refine bnd_at (x := .rt (.tup (rs.map row))) (g' := g4) ?_ rfl
    refine seq_at (env' := [some (.ref n), some (.int (w : Nat)), some (.int (m : Nat)), some (.ref c), some (.lst (bs.map D.bl)), none, none, none, none, none, none, none, none, none, none]) (g' := g2) ?_ (seq_at (g' := g4) (env' := [some (.ref n), some (.int (w : Nat)), some (.int (m : Nat)), some (.ref c), some (.lst (bs.map D.bl)), t5, t6, t7, t8, t9, t10, t11, t12, t13, t14]) ?_ ?_)
    · simp [bnd, e0, e2]
    · unfold sFor
      have ew : eyW call f1 [some (.ref n), some (.int (w : Nat)), some (.int (m : Nat)), some (.ref c), some (.lst (bs.map D.bl)), none, none, none, none, none, none, none, none, none, none] g2 = .ok (free ((List.range (1 + k)).map fun j => D.int (j : Nat))) g3 := by
        unfold eyW
        simp [bnd, e3, hw4]
      exact bnd_at ew e4
    · simp [bnd, ht4]
  have hl4 : g4.length = g.length + 1 := by rw [l4, hc]
  rw [hc] at s4
  obtain ⟨f1', f2', f3'⟩ := fin_tup hn hrun hl4 (noRef_rows _ rs) hng p4 s4
  refine ⟨rs, g4.take g.length, f1', ⟨by omega, by omega, fun r hr => ?_⟩, fun r hr => ?_, f2'.mono (by omega), f3'⟩
  · exact ⟨(r4 r hr).1, (r4 r hr).2.1, (r4 r hr).2.2.1⟩
  · have hB : Bd (1 + k) ≤ 685 := by
      have hk3 : k ≤ 3 := by omega
      rcases k with _ | _ | _ | _ | k
      · decide
      · decide
      · decide
      · decide
      · omega
    exact (r4 r hr).2.2.2.mono hB
end
end L3
set_option Elab.async false
set_option linter.all false
set_option maxRecDepth 100000
set_option maxHeartbeats 4000000
set_option exponentiation.threshold 100
namespace L3
open PySem
@[simp] theorem ne_int (i j : Int) : neD (.int i) (.int j) = ret (.bl (!(i == j))) := rfl
@[simp] theorem is_non_int (i : Int) : isD (.int i) .non = ret (.bl false) := rfl
@[simp] theorem is_non_tup (ds : List D) : isD (.tup ds) .non = ret (.bl false) := rfl
@[simp] theorem is_bl_bl (a b : Bool) : isD (.bl a) (.bl b) = ret (.bl (a == b)) := rfl
@[simp] theorem isn_bl_bl (a b : Bool) : isnD (.bl a) (.bl b) = ret (.bl (!(a == b))) := rfl
@[simp] theorem isi_bool_tup (ds : List D) : isiD "bool" (.tup ds) = ret (.bl false) := rfl
@[simp] theorem isi_int_tup (ds : List D) : isiD "int" (.tup ds) = ret (.bl false) := rfl
@[simp] theorem isi_str_tup (ds : List D) : isiD "str" (.tup ds) = ret (.bl false) := rfl
section
variable {call : Nat → List D → M D} {f1 f2 f3 f4 f5 : Nat}
/-! ### same -/
def SameT (call : Nat → List D → M D) (i : Nat) (d : D) : Prop := call i [d, d] = ret (.bl true)
theorem same_int (i : Int) : runB (B__law_same call f1) [some (.int i), some (.int i), none, none] = ret (.bl true) := by
  unfold B__law_same
  simp
noncomputable def smA (call : Nat → List D → M D) (f1 : Nat) : EF := eCB (un allD) (aCons (eComp [2, 3] (wZip (aCons (eVar 0) (aCons (eVar 1) aNil))) (gTp 2 (gsCons (gNm 2) (gsCons (gNm 3) gsNil))) fYes (eCB (call f1) (aCons (eVar 2) (aCons (eVar 3) aNil))) false) aNil)
theorem same_tup {ds : List D} (hl : ds.length ≤ lim) (h : ∀ d ∈ ds, SameT call f1 d) : runB (B__law_same call f1) [some (.tup ds), some (.tup ds), none, none] = ret (.bl true) := by
  have e2 : eCB (un allD) (aCons (eComp [2, 3] (wZip (aCons (eVar 0) (aCons (eVar 1) aNil))) (gTp 2 (gsCons (gNm 2) (gsCons (gNm 3) gsNil))) fYes (eCB (call f1) (aCons (eVar 2) (aCons (eVar 3) aNil))) false) aNil) [some (.tup ds), some (.tup ds), none, none] = ret (.bl (ds.all fun _ => true)) :=
    eComp_all (mk := fun d => .tup [d, d]) (ok := fun _ => True ∧ True) (by simp [zipD, free, List.zipWith_self]) (fun _ => ⟨trivial, trivial⟩) hl fun d hd => by
      have := h d hd
      unfold SameT at this
      simp [wipeE, this]
  have e4 : (ds.all fun _ => true) = true := by simp
  rw [e4] at e2
  have e2 : smA call f1 [some (.tup ds), some (.tup ds), none, none] = ret (.bl true) := e2
  unfold B__law_same
  change runB (sSeq _ (sSeq _ (sSeq _ (sSeq _ (sSeq _ (sSeq (sRt (smA call f1)) _)))))) _ = _
  simp [e2]
def IsSame (call : Nat → List D → M D) (i : Nat) : Prop := ∀ qs : List Rat, qs.length ≤ lim → call i [row qs, row qs] = ret (.bl true)
/-! ### pool -/
@[simp] theorem len_scr (ns : List Int) : un lenD [.scr ns] = ret (.int ns.length) := rfl
theorem idx_scr {ns : List Int} {i : Nat} {n : Int} (h : ns[i]? = some n) : idxD (.scr ns) (.int i) = ret (.int n) := by
  have h' : (ns.map D.int)[i]? = some (.int n) := by rw [List.getElem?_map, h]; rfl
  unfold idxD
  show bnd (deref (.scr ns)) (fun e => ofO (idxO e i)) = _
  have e : deref (.scr ns) = ret (.scr ns) := rfl
  rw [e, bnd_ret]
  unfold idxO itemsO
  simp only [atI_nat h']
  rfl
theorem sl_scr (ns : List Int) (hi : Option Int) : slD (.scr ns) none hi = ret (.lst ((cutL ns none hi).map .int)) := rfl
def plP (call : Nat → List D → M D) (c5 c6 c7 : Int) : SF := sSeq (sAs (eBin modD (eCB (un intD) (aCons (eBin addD (eBin addD (eBin mulD (eVar 3) (eC (.int c5))) (eBin modD (eCB (un intD) (aCons (eVar 4) aNil)) (eC (.int c6)))) (eC (.int 43))) aNil)) (eC (.int c7))) (gNm 3)) (sNx)
theorem pool_loop {c5 c6 c7 : Int} (h5 : Small c5) (h7 : Small c7) (p6 : 0 < c6) (p7 : 0 < c7) {a b c : Option D} {s : Int} (s0 : 0 ≤ s) (s1 : s < 2 ^ 40) (ns : List Int) {x : Option D} :
    ∃ (s' : Int) (y : Option D), 0 ≤ s' ∧ s' < 2 ^ 40 ∧ forL (fun _ => True) (gNm 4) (plP call c5 c6 c7) (ns.map D.int) [a, b, c, some (.int s), x] = ret (.nx [a, b, c, some (.int s'), y]) := by
  obtain ⟨e2, h1, s', y, a0, a1, h2⟩ := forL_inv (ok := fun _ => True) (gf := gNm 4) (body := plP call c5 c6 c7) (fun _ => trivial)
    (Inv := fun j env => ∃ (s' : Int) (y : Option D), 0 ≤ s' ∧ s' < 2 ^ 40 ∧ env = [a, b, c, some (.int s'), y]) (its := ns.map D.int) (env := [a, b, c, some (.int s), x]) (j := 0) (fun i d env hd hi => by
      obtain ⟨s', y, a0, a1, rfl⟩ := hi
      rw [List.getElem?_map] at hd
      cases q : ns[i]? with
      | none => rw [q] at hd; cases hd
      | some z =>
        rw [q] at hd
        cases hd
        have m1 := mulOk_S9 (S9_lt (n := 40) a0 a1 (by decide)) h5.s9
        obtain ⟨t, ht⟩ : ∃ t : Int, (s' * c5 + z % c6 + 43) % c7 = t := ⟨_, rfl⟩
        have t0 : 0 ≤ t := by
          rw [← ht]
          exact Int.emod_nonneg _ (by omega)
        have t1 : t < c7 := by
          rw [← ht]
          exact Int.emod_lt_of_pos _ p7
        refine ⟨[a, b, c, some (.int t), some (.int z)], ?_, t, some (.int z), t0, by have := h7.2; omega, rfl⟩
        unfold plP
        simp [m1, p6, p7, ht]) ⟨s, x, s0, s1, rfl⟩
  subst h2
  exact ⟨s', y, a0, a1, h1⟩
def plE : EF := eIf (fOr (tBl (eBin ltD (eVar 2) (eC (.int 0)))) (tBl (eBin geD (eVar 2) (eBin powD (eC (.int 10)) (eC (.int 15)))))) (eCB (un absD) (aCons (eVar 2) aNil)) (eC (.int 0))
theorem pool_ok {c1 c2 c3 c4 c5 c6 c7 c8 c9 c10 : Int} (h1 : Small c1) (h3 : 0 ≤ c3 ∧ c3 < 2 ^ 30) (h4 : 0 ≤ c4 ∧ c4 < 2 ^ 30) (h5 : Small c5) (h7 : Small c7) (h8 : Small c8) (h9 : Small c9) (h10 : Small c10) (p6 : 0 < c6) (p7 : 0 < c7) (p8 : 0 < c8) (p10 : 0 < c10) {ns : List Int} {l : Nat} (hl : l ≤ 2) (g : G) :
    ∃ p0 p1 : Int, 0 ≤ p0 ∧ 0 ≤ p1 ∧ p1 < 2 ^ 40 ∧ runB (B__law_pool call c1 c2 c3 c4 c5 c6 c7 c8 c9 c10) [some (.scr ns), some (.int l), none, none, none] g = .ok (.ref g.length) (g ++ [.lst [.int p0, .int p1, .int 0]]) := by
  have sl : S9 (l : Int) := S9_40 (l := l) (Nat.lt_of_le_of_lt hl (by decide))
  have m1 := mulOk_S9 h1.s9 sl
  have m4 : mulOk c4 l = true := mulOk_S9 (S9_lt (n := 30) h4.1 h4.2 (by decide)) sl
  obtain ⟨cell, e1⟩ : ∃ cell : Int, eIf (tBl (eBin ltD (eVar 1) (eCB (un lenD) (aCons (eVar 0) aNil)))) (eCB (un intD) (aCons (eBin idxD (eVar 0) (eVar 1)) aNil)) (eBin addD (eBin mulD (eC (.int c1)) (eVar 1)) (eC (.int c2))) [some (.scr ns), some (.int l), none, none, none] = ret (.int cell) := by
    by_cases h : l < ns.length
    · have hi := idx_scr (List.getElem?_eq_getElem h)
      exact ⟨ns[l], by simp [h, hi]⟩
    · exact ⟨c1 * l + c2, by simp [h, m1]⟩
  have hq0 : 0 ≤ c4 * (l : Int) := Int.mul_nonneg h4.1 (by omega)
  have hq1 : c4 * (l : Int) ≤ c4 * 2 := Int.mul_le_mul_of_nonneg_left (by omega) h4.1
  obtain ⟨s1, y1, a0, a1, e2⟩ := pool_loop (call := call) h5 h7 p6 p7 (a := some (.scr ns)) (b := some (.int l)) (c := some (.int cell)) (s := c3 + c4 * l) (by have := h3.1; omega) (by have := h3.2; have := h4.2; omega) (cutL ns none (some 12)) (x := none)
  have m2 := mulOk_S9 (S9_lt (n := 40) a0 a1 (by decide)) (b := 47) (S9_40 (l := 47) (by decide))
  have r0 : 0 ≤ cell % c8 := Int.emod_nonneg _ (by omega)
  have r1 : cell % c8 < c8 := Int.emod_lt_of_pos _ p8
  have m3 := mulOk_S9 (S9_lt (n := 40) r0 (by have := h8.2; omega) (by decide)) h9.s9
  obtain ⟨p1, hp1⟩ : ∃ p1 : Int, (s1 * 47 + cell % c8 * c9 + 11) % c10 = p1 := ⟨_, rfl⟩
  have t0 : 0 ≤ p1 := by
    rw [← hp1]
    exact Int.emod_nonneg _ (by omega)
  have t1 : p1 < c10 := by
    rw [← hp1]
    exact Int.emod_lt_of_pos _ p10
  obtain ⟨p0, hp0, e3⟩ : ∃ p0 : Int, 0 ≤ p0 ∧ eIf (fOr (tBl (eBin ltD (eVar 2) (eC (.int 0)))) (tBl (eBin geD (eVar 2) (eBin powD (eC (.int 10)) (eC (.int 15)))))) (eCB (un absD) (aCons (eVar 2) aNil)) (eC (.int 0)) [some (.scr ns), some (.int l), some (.int cell), some (.int p1), y1] = ret (.int p0) := by
    have q2 : powD (.int 10) (.int 15) = ret (.int (10 ^ 15)) := rfl
    by_cases h : cell < 0
    · refine ⟨if cell < 0 then -cell else cell, by split <;> omega, ?_⟩
      simp [h]
    · by_cases h' : (10 : Int) ^ 15 ≤ cell
      · refine ⟨if cell < 0 then -cell else cell, by split <;> omega, ?_⟩
        simp only [Int.reducePow] at h' q2
        simp [h, q2, h']
      · refine ⟨0, by omega, ?_⟩
        simp only [Int.reducePow] at h' q2
        simp [h, q2, h']
  refine ⟨p0, p1, hp0, t0, by have := h10.2; omega, ?_⟩
  have e3 : plE [some (.scr ns), some (.int l), some (.int cell), some (.int p1), y1] = ret (.int p0) := e3
  have e2' : sFor (wVal (eSl (eVar 0) oNone (oSome (eC (.int 12))))) (gNm 4) (plP call c5 c6 c7) [some (.scr ns), some (.int l), some (.int cell), some (.int (c3 + c4 * l)), none] = ret (.nx [some (.scr ns), some (.int l), some (.int cell), some (.int s1), y1]) := by
    unfold sFor
    simp only [r_wVal, r_eSl, r_eVar, List.getElem?_cons_zero, bnd_ret, r_oNone, r_oSome, r_eC, sl_scr, wk_lst, free]
    exact e2
  unfold B__law_pool
  change runB (sSeq _ (sSeq _ (sSeq (sFor _ _ (plP call c5 c6 c7)) (sSeq _ (sSeq (sRt (eNew (aCons plE _))) _))))) _ g = _
  simp only [r_runB, r_sSeq, r_sAs, e1, bnd_ret, r_bnd_bnd, r_gNm, List.set_cons_zero, List.set_cons_succ]
  simp [m4, e2', m2, p8, m3, p10, hp1, e3]
  simp [newCell, bnd]
end
end L3
set_option Elab.async false
set_option linter.all false
set_option maxRecDepth 100000
set_option maxHeartbeats 4000000
set_option exponentiation.threshold 100
namespace L3
open PySem
def IsSurfD (call : Nat → List D → M D) (i : Nat) : Prop := ∀ n b w, w ≤ 6 → b + 24 ≤ 10 ^ 9 → Drw n b (b + w * 4) (fun y => ∃ qs, y = row qs ∧ qs.length = w ∧ ∀ q ∈ qs, SHn q) (call i [.ref n, .int (w : Nat)])
/-! ### sums of fractions -/
theorem foldl_plus (c : Rat) : ∀ xs : List Rat, xs.foldl (· + ·) c = c + sumQ xs
  | [] => (Rat.add_zero c).symm
  | x :: xs => by
    have h1 := foldl_plus (c + x) xs
    have h2 := foldl_plus (0 + x) xs
    unfold sumQ at *
    rw [List.foldl_cons, List.foldl_cons, h1, h2, Rat.zero_add, Rat.add_assoc]
theorem sum_cons (x : Rat) (xs : List Rat) : sumQ (x :: xs) = x + sumQ xs := by
  have := foldl_plus (0 + x) xs
  unfold sumQ at *
  rw [List.foldl_cons, this, Rat.zero_add]
def addQ (a b : List Rat) : List Rat := List.zipWith (· + ·) a b
theorem dot_add : ∀ {r a b : List Rat}, a.length = r.length → b.length = r.length → dotQ r (addQ a b) = dotQ r a + dotQ r b
  | [], a, b, _, _ => by
    simp only [dotQ, prodQ, List.zipWith_nil_left]
    exact (Rat.add_zero _).symm
  | x :: r, y :: a, z :: b, h1, h2 => by
    have ih := dot_add (r := r) (a := a) (b := b) (by simpa using h1) (by simpa using h2)
    unfold dotQ prodQ addQ at *
    rw [List.zipWith_cons_cons, List.zipWith_cons_cons, List.zipWith_cons_cons, List.zipWith_cons_cons, sum_cons, sum_cons, sum_cons, ih, Rat.mul_add]
    grind
  | x :: r, [], _, h1, _ => by simp at h1
  | x :: r, y :: a, [], _, h2 => by simp at h2
theorem look_add {w : Nat} {rows : List (List Rat)} {a b : List Rat} (hr : ∀ r ∈ rows, r.length = w) (ha : a.length = w) (hb : b.length = w) : lookQ rows (addQ a b) = addQ (lookQ rows a) (lookQ rows b) := by
  unfold lookQ
  have : ∀ rs : List (List Rat), (∀ r ∈ rs, r.length = w) → (rs.map fun r => dotQ r (addQ a b)) = addQ (rs.map fun r => dotQ r a) (rs.map fun r => dotQ r b) := fun rs => by
    induction rs with
    | nil => intro _; rfl
    | cons r rs ih =>
      intro h
      rw [List.map_cons, List.map_cons, List.map_cons, ih fun r' h' => h r' (List.mem_cons_of_mem _ h'), dot_add (by rw [ha, h r (List.mem_cons_self ..)]) (by rw [hb, h r (List.mem_cons_self ..)])]
      rfl
  exact this rows hr
theorem prod_ones : ∀ {a : List Rat} {w : Nat}, a.length = w → prodQ a (List.replicate w 1) = a
  | [], _, _ => by simp [prodQ]
  | x :: a, 0, h => by simp at h
  | x :: a, w + 1, h => by
    have ih := prod_ones (a := a) (w := w) (by simpa using h)
    unfold prodQ at *
    rw [List.replicate_succ, List.zipWith_cons_cons, ih, Rat.mul_one]
theorem prod_zeros : ∀ {a : List Rat} {w : Nat}, a.length = w → prodQ a (List.replicate w 0) = List.replicate w 0
  | [], w, h => by
    have : w = 0 := h.symm
    subst this
    rfl
  | x :: a, 0, h => by simp at h
  | x :: a, w + 1, h => by
    have ih := prod_zeros (a := a) (w := w) (by simpa using h)
    unfold prodQ at *
    rw [List.replicate_succ, List.zipWith_cons_cons, ih, Rat.mul_zero]
theorem sum_zeros : ∀ w : Nat, sumQ (List.replicate w 0) = 0
  | 0 => rfl
  | w + 1 => by rw [List.replicate_succ, sum_cons, sum_zeros w, Rat.zero_add]
theorem look_zeros {w : Nat} : ∀ {rows : List (List Rat)}, (∀ r ∈ rows, r.length = w) → lookQ rows (List.replicate w 0) = List.replicate rows.length 0
  | [], _ => rfl
  | r :: rows, h => by
    have ih := look_zeros (rows := rows) fun r' h' => h r' (List.mem_cons_of_mem _ h')
    unfold lookQ at *
    rw [List.map_cons, ih, List.length_cons, List.replicate_succ]
    congr 1
    unfold dotQ
    rw [prod_zeros (h r (List.mem_cons_self ..)), sum_zeros]
theorem prod_len {a b : List Rat} {w : Nat} (h1 : a.length = w) (h2 : b.length = w) : (prodQ a b).length = w := by
  unfold prodQ
  rw [List.length_zipWith, h1, h2, Nat.min_self]
theorem add_len {a b : List Rat} {w : Nat} (h1 : a.length = w) (h2 : b.length = w) : (addQ a b).length = w := by
  unfold addQ
  rw [List.length_zipWith, h1, h2, Nat.min_self]
theorem NN.prod {a b : List Rat} (h1 : NN a) (h2 : NN b) : NN (prodQ a b) := fun z hz => by
  obtain ⟨x, y, hx, hy, rfl⟩ := mem_zipWith hz
  exact Rat.mul_nonneg (h1 x hx) (h2 y hy)
theorem NN.add {a b : List Rat} (h1 : NN a) (h2 : NN b) : NN (addQ a b) := fun z hz => by
  obtain ⟨x, y, hx, hy, rfl⟩ := mem_zipWith hz
  exact Rat.add_nonneg (h1 x hx) (h2 y hy)
theorem add_Sm {a b : List Rat} {m n : Nat} (ha : SmL m a) (hb : SmL n b) : SmL (m + n + 1) (addQ a b) := fun z hz => by
  obtain ⟨x, y, h1, h2, rfl⟩ := mem_zipWith hz
  exact (ha x h1).add (hb y h2)
theorem dot_Sm {r l : List Rat} {m n w : Nat} (hr : SmL m r) (hl : SmL n l) (hw : r.length = w) : Sm (w * (m + n + 1) + 1) (dotQ r l) := by
  have h := sum_Sm (prod_Sm hr hl) w
  rw [List.take_of_length_le (by unfold prodQ; rw [List.length_zipWith, hw]; exact Nat.min_le_left _ _)] at h
  exact h
theorem look_Sm {rows : List (List Rat)} {l : List Rat} {m n w : Nat} (hr : ∀ r ∈ rows, SmL m r ∧ r.length = w) (hl : SmL n l) : SmL (w * (m + n + 1) + 1) (lookQ rows l) := fun z hz => by
  obtain ⟨r, h1, rfl⟩ := List.mem_map.mp hz
  exact dot_Sm (hr r h1).1 hl (hr r h1).2
theorem SH.nn {a : List Rat} (h : SH a) : NN a := fun q hq => (h q hq).1
theorem Sm11 : Sm 1 1 := ⟨by show 1 < 2 ^ 1; decide, by show 1 < 2 ^ 1; decide⟩
theorem ones_SH (w : Nat) : SH (List.replicate w 1) ∧ SmL 1 (List.replicate w 1) := ⟨fun q hq => by rw [(List.mem_replicate.mp hq).2]; exact ⟨by decide, by decide⟩, fun q hq => by rw [(List.mem_replicate.mp hq).2]; exact Sm11⟩
theorem zeros_SH (w : Nat) : SH (List.replicate w 0) ∧ SmL 1 (List.replicate w 0) := ⟨fun q hq => by rw [(List.mem_replicate.mp hq).2]; exact ⟨by decide, by decide⟩, fun q hq => by rw [(List.mem_replicate.mp hq).2]; exact Sm.zero 0⟩
theorem rts_repl (w : Nat) (q : Rat) : (List.replicate w [rt q]).flatten = rts (List.replicate w q) := by
  induction w with
  | zero => rfl
  | succ k ih =>
    rw [List.replicate_succ, List.flatten_cons, ih, List.replicate_succ]
    rfl
theorem mul_rep {w : Nat} (h1 : 1 ≤ w) (h2 : w ≤ 1000) (q : Rat) : mulD (.tup [rt q]) (.int (w : Nat)) = ret (row (List.replicate w q)) := by
  show (if (w : Int) = 1 then ret (D.tup [rt q]) else if 2 ≤ (w : Int) ∧ (w : Int) ≤ 1000 ∧ [rt q] ≠ [] ∧ [rt q].length ≤ 1000 then ret (D.tup (List.replicate (w : Int).toNat [rt q]).flatten) else bot) = _
  by_cases h : w = 1
  · subst h
    rfl
  · have e : ((w : Int)).toNat = w := Int.toNat_natCast w
    rw [if_neg (by omega), if_pos ⟨by omega, by omega, by simp, by simp⟩, e, rts_repl]
    rfl
section
variable {call : Nat → List D → M D} {f1 f2 f3 f4 f5 : Nat}
theorem comp_plus (hp : IsPlus call f1) {own : List Nat} {A B : EF} {env : Env3} {i j : Nat} {a b : List Rat} {m n : Nat} (hA : A env = ret (row a)) (hB : B env = ret (row b)) (hij : i ≠ j) (hi : (wipeE env own).length > i) (hj : (wipeE env own).length > j) (ha : SmL m a) (hb : SmL n b) (h : m + n ≤ 8999) (hl : a.length ≤ lim) :
    eComp own (wZip (aCons A (aCons B aNil))) (gTp 2 (gsCons (gNm i) (gsCons (gNm j) gsNil))) fYes (eCB (call f1) (aCons (eVar i) (aCons (eVar j) aNil))) false env = ret (.lst (rts (addQ a b))) := by
  refine eComp_ret (w := ⟨(rts a).zipWith (fun p q => D.tup [p, q]) (rts b), fun _ => True ∧ True⟩) (by simp [hA, hB, zipD, free]) (fun _ => ⟨trivial, trivial⟩) ?_ ?_ fun t d y h1 h2 => ?_
  · show ((rts a).zipWith (fun p q => D.tup [p, q]) (rts b)).length ≤ lim
    rw [List.length_zipWith, rts_len]
    omega
  · show (rts (addQ a b)).length = ((rts a).zipWith (fun p q => D.tup [p, q]) (rts b)).length
    simp [addQ]
  · obtain ⟨p, q, qa, qb, rfl, _⟩ := zip_items a b t d h1
    have h2 : ((addQ a b).map rt)[t]? = some y := h2
    rw [List.getElem?_map, addQ, List.getElem?_zipWith, qa, qb] at h2
    cases h2
    have e := hp p q m n (ha p (List.mem_of_getElem? qa)) (hb q (List.mem_of_getElem? qb)) h
    have e1 : ((((wipeE env own).set i (some (rt p))).set j (some (rt q))))[i]? = some (some (rt p)) := by
      rw [List.getElem?_set_ne (Ne.symm hij), List.getElem?_set_self hi]
    have e2 : ((((wipeE env own).set i (some (rt p))).set j (some (rt q))))[j]? = some (some (rt q)) := by
      rw [List.getElem?_set_self (by rw [List.length_set]; exact hj)]
    simp [e1, e2, e]
theorem seq_ret {f k : SF} {env env' : Env3} (h : f env = ret (.nx env')) : sSeq f k env = k env' := by
  rw [r_sSeq, h, bnd_ret]
theorem compA_st {ok : G → Prop} {gf : GF} {ef : EF} {env : Env3} {Inv : G → Prop} {y : D} (hok : ∀ g, ok g) : ∀ {its acc : List D}, (∀ d ∈ its, ∀ g, Inv g → ∃ g', bnd (gf d env) ef g = .ok y g' ∧ Inv g') → ∀ g, Inv g →
    ∃ g', compA ok gf fYes ef env acc its g = .ok (acc ++ List.replicate its.length y) g' ∧ Inv g'
  | [], acc, _, g, hg => ⟨g, by unfold compA; rw [chk_ok hok]; simp, hg⟩
  | d :: its, acc, h, g, hg => by
    obtain ⟨g1, h1, h2⟩ := h d (List.mem_cons_self ..) g hg
    obtain ⟨g2, k1, k2⟩ := compA_st (acc := acc ++ [y]) hok (fun d' hd => h d' (List.mem_cons_of_mem _ hd)) g1 h2
    refine ⟨g2, ?_, k2⟩
    unfold compA
    rw [chk_ok hok]
    have e : (bnd (gf d env) fun e1 => bnd (fYes e1) fun k => if k = true then bnd (ef e1) fun y => compA ok gf fYes ef env (acc ++ [y]) its else compA ok gf fYes ef env acc its) = bnd (bnd (gf d env) ef) fun y => compA ok gf fYes ef env (acc ++ [y]) its := by
      rw [bnd_assoc]
      congr 1
    rw [e, bnd_ok h1, k1, List.append_assoc]
    rfl
theorem eComp_st {own : List Nat} {wf : WF} {gf : GF} {ef : EF} {env : Env3} {w : Wk} {Inv : G → Prop} {y : D} {g : G} (hw : wf env = ret w) (hok : ∀ g, w.ok g) (hl : w.its.length ≤ lim) (h : ∀ d ∈ w.its, ∀ g, Inv g → ∃ g', bnd (gf d (wipeE env own)) ef g = .ok y g' ∧ Inv g') (hg : Inv g) :
    ∃ g', eComp own wf gf fYes ef false env g = .ok (.lst (List.replicate w.its.length y)) g' ∧ Inv g' := by
  obtain ⟨g', h1, h2⟩ := compA_st (acc := []) hok h g hg
  refine ⟨g', ?_, h2⟩
  unfold eComp
  rw [hw, bnd_ret, if_pos hl, bnd_ok (noErr_ok h1)]
  rfl
end
end L3
set_option Elab.async false
set_option linter.all false
set_option maxRecDepth 100000
set_option maxHeartbeats 0
namespace K03
open PySem PySem.Spec PyProof.Rows L3
def top (i : Nat) : Stmt := PySem.Challenge.pw_lamplooks_k03_whole_looks_by_own_fractio.main.body.getD i (.Pass ⟨0, 0, 0, 0⟩)
def s_ratio : Ds := ⟨"ratio", 9, ["top", "low"], ["top", "low", "divisor"], [], false, false⟩
def s_plus : Ds := ⟨"plus", 10, ["one", "other"], ["one", "other"], [], false, false⟩
def s_times : Ds := ⟨"times", 11, ["one", "other"], ["one", "other"], [], false, false⟩
def s_sum_of : Ds := ⟨"sum_of", 12, ["numbers"], ["numbers", "found", "number"], [], false, false⟩
def s_dot : Ds := ⟨"dot", 13, ["numbers", "others"], ["numbers", "others", "one", "other"], [], false, false⟩
def s_products : Ds := ⟨"products", 14, ["numbers", "others"], ["numbers", "others", "one", "other"], [], false, false⟩
def s_are_zero : Ds := ⟨"are_zero", 15, ["numbers"], ["numbers", "number"], [], false, false⟩
def s_is_whole : Ds := ⟨"is_whole", 17, ["value"], ["value"], [], false, false⟩
def s_is_tuple_up_to : Ds := ⟨"is_tuple_up_to", 18, ["value", "low", "high"], ["value", "low", "high"], [], false, false⟩
def s_is_tuple_of : Ds := ⟨"is_tuple_of", 19, ["value", "many"], ["value", "many"], [], false, false⟩
def s_are_all : Ds := ⟨"are_all", 20, ["value", "many", "is_one"], ["value", "many", "is_one", "each"], [], false, false⟩
def s_is_ratio : Ds := ⟨"is_ratio", 21, ["value"], ["value"], [], false, false⟩
def s_is_content : Ds := ⟨"is_content", 22, ["value"], ["value"], [], false, false⟩
def s_is_share : Ds := ⟨"is_share", 23, ["value"], ["value"], [], false, false⟩
def s_is_light_of : Ds := ⟨"is_light_of", 27, ["value", "width"], ["value", "width"], [], false, false⟩
def s_is_lamp_of : Ds := ⟨"is_lamp_of", 28, ["value", "width"], ["value", "width"], [], false, false⟩
def s_is_surface_of : Ds := ⟨"is_surface_of", 29, ["value", "width"], ["value", "width"], [], false, false⟩
def s_is_eye_of : Ds := ⟨"is_eye_of", 30, ["value", "width"], ["value", "width", "each"], [], false, false⟩
def s_width_in : Ds := ⟨"width_in", 31, ["value"], ["value"], [], false, false⟩
def s_is_any_light : Ds := ⟨"is_any_light", 32, ["value"], ["value"], [], false, false⟩
def s_is_any_lamp : Ds := ⟨"is_any_lamp", 33, ["value"], ["value"], [], false, false⟩
def s_is_any_eye : Ds := ⟨"is_any_eye", 34, ["value"], ["value"], [], false, false⟩
def s_width_of : Ds := ⟨"width_of", 35, ["eye"], ["eye"], [], false, false⟩
def s_check_eye : Ds := ⟨"check_eye", 36, ["eye"], ["eye"], [], false, false⟩
def s_check_light : Ds := ⟨"check_light", 37, ["light", "width"], ["light", "width"], [], false, false⟩
def s_check_any_lamp : Ds := ⟨"check_any_lamp", 38, ["lamp"], ["lamp"], [], false, false⟩
def s_check_lamp : Ds := ⟨"check_lamp", 39, ["lamp", "width"], ["lamp", "width"], [], false, false⟩
def s_check_surface : Ds := ⟨"check_surface", 40, ["surface", "width"], ["surface", "width"], [], false, false⟩
def s_look_by : Ds := ⟨"look_by", 42, ["eye", "light"], ["eye", "light", "row"], [], false, false⟩
def s_lit_by : Ds := ⟨"lit_by", 43, ["lamp", "surface"], ["lamp", "surface"], [], false, false⟩
def s_look_under_by : Ds := ⟨"look_under_by", 44, ["eye", "lamp", "surface"], ["eye", "lamp", "surface"], [], false, false⟩
def s_is_light : Ds := ⟨"is_light", 46, ["value"], ["value"], [], false, false⟩
def s_look_of : Ds := ⟨"look_of", 47, ["eye", "light"], ["eye", "light"], [], false, false⟩
def s_lit : Ds := ⟨"lit", 48, ["lamp", "surface"], ["lamp", "surface"], [], false, false⟩
def s_look_under : Ds := ⟨"look_under", 49, ["eye", "lamp", "surface"], ["eye", "lamp", "surface"], [], false, false⟩
def s__law_pool : Ds := ⟨"_law_pool", 51, ["script", "lap"], ["script", "lap", "cell", "stirred", "each"], [], true, false⟩
def s__law_below : Ds := ⟨"_law_below", 52, ["pool", "many"], ["pool", "many", "figure", "stirred"], [], false, false⟩
def s__law_one : Ds := ⟨"_law_one", 53, ["pool", "some"], ["pool", "some"], [], false, false⟩
def s__law_ratio : Ds := ⟨"_law_ratio", 54, ["top", "low"], ["top", "low", "one", "two"], [], false, false⟩
def s__law_plus : Ds := ⟨"_law_plus", 55, ["one", "two"], ["one", "two"], [], false, false⟩
def s__law_times : Ds := ⟨"_law_times", 56, ["one", "two"], ["one", "two"], [], false, false⟩
def s__law_dot : Ds := ⟨"_law_dot", 57, ["one", "two"], ["one", "two", "found", "x", "y"], [], false, false⟩
def s__law_content : Ds := ⟨"_law_content", 58, ["pool"], ["pool", "way"], [], false, false⟩
def s__law_share : Ds := ⟨"_law_share", 59, ["pool"], ["pool", "low"], [], false, false⟩
def s__law_light : Ds := ⟨"_law_light", 60, ["pool", "width"], ["pool", "width", "band"], [], false, false⟩
def s__law_lamp : Ds := ⟨"_law_lamp", 61, ["pool", "width"], ["pool", "width", "found", "each"], [], false, false⟩
def s__law_surface : Ds := ⟨"_law_surface", 62, ["pool", "width"], ["pool", "width", "band"], [], false, false⟩
def s__law_eye : Ds := ⟨"_law_eye", 63, ["pool", "width", "most"], ["pool", "width", "most", "found", "dark", "lap", "row", "more", "other", "some", "band", "each", "is_dark", "x", "y"], ["found"], false, true⟩
def s__law_look : Ds := ⟨"_law_look", 64, ["eye", "light"], ["eye", "light", "row"], [], false, false⟩
def s__law_lit : Ds := ⟨"_law_lit", 65, ["lamp", "surface"], ["lamp", "surface", "x", "y"], [], false, false⟩
def s__law_same : Ds := ⟨"_law_same", 66, ["told", "due"], ["told", "due", "x", "y"], [], false, false⟩
def s__law_right : Ds := ⟨"_law_right", 67, ["pool"], ["pool", "lap", "width", "eye", "light", "other", "lamp", "surface", "look", "told", "both", "x", "y"], [], false, false⟩
def s_law : Ds := ⟨"law", 68, ["script"], ["script", "lap"], [], false, false⟩
def LS : List Ds := ([s_ratio, s_plus, s_times, s_sum_of, s_dot, s_products, s_are_zero, s_is_whole, s_is_tuple_up_to, s_is_tuple_of, s_are_all, s_is_ratio, s_is_content, s_is_share, s_is_light_of, s_is_lamp_of, s_is_surface_of, s_is_eye_of, s_width_in, s_is_any_light] : List Ds) ++ ([s_is_any_lamp, s_is_any_eye, s_width_of, s_check_eye, s_check_light, s_check_any_lamp, s_check_lamp, s_check_surface, s_look_by, s_lit_by, s_look_under_by, s_is_light, s_look_of, s_lit, s_look_under, s__law_pool, s__law_below, s__law_one, s__law_ratio, s__law_plus] : List Ds) ++ ([s__law_times, s__law_dot, s__law_content, s__law_share, s__law_light, s__law_lamp, s__law_surface, s__law_eye, s__law_look, s__law_lit, s__law_same, s__law_right, s_law] : List Ds)
def gl : List (PySem.Str × Gk) := ([("gcd", .im "math.gcd"), ("ZERO", .cst (.tup [(.int 0), (.int 1)])), ("ratio", .fn 0), ("plus", .fn 1), ("times", .fn 2), ("sum_of", .fn 3), ("dot", .fn 4), ("products", .fn 5), ("are_zero", .fn 6), ("is_whole", .fn 7), ("is_tuple_up_to", .fn 8), ("is_tuple_of", .fn 9), ("are_all", .fn 10), ("is_ratio", .fn 11), ("is_content", .fn 12), ("is_share", .fn 13), ("MOST_BANDS", .cst (.int 6)), ("MOST_ROWS", .cst (.int 4)), ("is_light_of", .fn 14), ("is_lamp_of", .fn 15)] : List (PySem.Str × Gk)) ++ ([("is_surface_of", .fn 16), ("is_eye_of", .fn 17), ("width_in", .fn 18), ("is_any_light", .fn 19), ("is_any_lamp", .fn 20), ("is_any_eye", .fn 21), ("width_of", .fn 22), ("check_eye", .fn 23), ("check_light", .fn 24), ("check_any_lamp", .fn 25), ("check_lamp", .fn 26), ("check_surface", .fn 27), ("look_by", .fn 28), ("lit_by", .fn 29), ("look_under_by", .fn 30), ("is_light", .fn 31), ("look_of", .fn 32), ("lit", .fn 33), ("look_under", .fn 34), ("_law_pool", .fn 35)] : List (PySem.Str × Gk)) ++ ([("_law_below", .fn 36), ("_law_one", .fn 37), ("_law_ratio", .fn 38), ("_law_plus", .fn 39), ("_law_times", .fn 40), ("_law_dot", .fn 41), ("_law_content", .fn 42), ("_law_share", .fn 43), ("_law_light", .fn 44), ("_law_lamp", .fn 45), ("_law_surface", .fn 46), ("_law_eye", .fn 47), ("_law_look", .fn 48), ("_law_lit", .fn 49), ("_law_same", .fn 50), ("_law_right", .fn 51), ("law", .fn 52), ("len", .bt), ("all", .bt), ("any", .bt)] : List (PySem.Str × Gk)) ++ ([("tuple", .bt), ("int", .bt), ("abs", .bt), ("max", .bt), ("min", .bt), ("divmod", .bt), ("isinstance", .bt), ("range", .bt), ("zip", .bt), ("bool", .bt), ("str", .bt)] : List (PySem.Str × Gk))
def kw : List ((Nat × List PySem.Str) × List Nat) := [((34, ["surface", "lamp", "eye"]), [2, 1, 0]), ((33, ["surface", "lamp"]), [1, 0]), ((32, ["light", "eye"]), [1, 0])]
noncomputable def TT : Nat → Option Fd := tab (tT' top LS) gl kw
noncomputable abbrev cal (k : Nat) : Nat → List D → M D := callT TT k
noncomputable def b_ratio (call : Nat → List D → M D) : SF := B_ratio call 
theorem e_ratio (call : Nat → List D → M D) : dSs 60 ((s_ratio.dd top).ct gl kw call) (s_ratio.dd top).body = b_ratio call := by kernel_rfl
noncomputable def b_plus (call : Nat → List D → M D) : SF := B_plus call 0
theorem e_plus (call : Nat → List D → M D) : dSs 60 ((s_plus.dd top).ct gl kw call) (s_plus.dd top).body = b_plus call := by kernel_rfl
noncomputable def b_times (call : Nat → List D → M D) : SF := B_times call 0
theorem e_times (call : Nat → List D → M D) : dSs 60 ((s_times.dd top).ct gl kw call) (s_times.dd top).body = b_times call := by kernel_rfl
noncomputable def b_sum_of (call : Nat → List D → M D) : SF := B_sum_of call 1
theorem e_sum_of (call : Nat → List D → M D) : dSs 60 ((s_sum_of.dd top).ct gl kw call) (s_sum_of.dd top).body = b_sum_of call := by kernel_rfl
noncomputable def b_dot (call : Nat → List D → M D) : SF := B_dot call 3 2
theorem e_dot (call : Nat → List D → M D) : dSs 60 ((s_dot.dd top).ct gl kw call) (s_dot.dd top).body = b_dot call := by kernel_rfl
noncomputable def b_products (call : Nat → List D → M D) : SF := B_products call 2
theorem e_products (call : Nat → List D → M D) : dSs 60 ((s_products.dd top).ct gl kw call) (s_products.dd top).body = b_products call := by kernel_rfl
noncomputable def b_are_zero (call : Nat → List D → M D) : SF := B_are_zero call 
theorem e_are_zero (call : Nat → List D → M D) : dSs 60 ((s_are_zero.dd top).ct gl kw call) (s_are_zero.dd top).body = b_are_zero call := by kernel_rfl
noncomputable def b_is_whole (call : Nat → List D → M D) : SF := B_is_whole call 
theorem e_is_whole (call : Nat → List D → M D) : dSs 60 ((s_is_whole.dd top).ct gl kw call) (s_is_whole.dd top).body = b_is_whole call := by kernel_rfl
noncomputable def b_is_tuple_up_to (call : Nat → List D → M D) : SF := B_is_tuple_up_to call 
theorem e_is_tuple_up_to (call : Nat → List D → M D) : dSs 60 ((s_is_tuple_up_to.dd top).ct gl kw call) (s_is_tuple_up_to.dd top).body = b_is_tuple_up_to call := by kernel_rfl
noncomputable def b_is_tuple_of (call : Nat → List D → M D) : SF := B_is_tuple_of call 8
theorem e_is_tuple_of (call : Nat → List D → M D) : dSs 60 ((s_is_tuple_of.dd top).ct gl kw call) (s_is_tuple_of.dd top).body = b_is_tuple_of call := by kernel_rfl
noncomputable def b_are_all (call : Nat → List D → M D) : SF := B_are_all call 9
theorem e_are_all (call : Nat → List D → M D) : dSs 60 ((s_are_all.dd top).ct gl kw call) (s_are_all.dd top).body = b_are_all call := by kernel_rfl
noncomputable def b_is_ratio (call : Nat → List D → M D) : SF := B_is_ratio call 10 7
theorem e_is_ratio (call : Nat → List D → M D) : dSs 60 ((s_is_ratio.dd top).ct gl kw call) (s_is_ratio.dd top).body = b_is_ratio call := by kernel_rfl
noncomputable def b_is_content (call : Nat → List D → M D) : SF := B_is_content call 11
theorem e_is_content (call : Nat → List D → M D) : dSs 60 ((s_is_content.dd top).ct gl kw call) (s_is_content.dd top).body = b_is_content call := by kernel_rfl
noncomputable def b_is_share (call : Nat → List D → M D) : SF := B_is_share call 12
theorem e_is_share (call : Nat → List D → M D) : dSs 60 ((s_is_share.dd top).ct gl kw call) (s_is_share.dd top).body = b_is_share call := by kernel_rfl
noncomputable def b_is_light_of (call : Nat → List D → M D) : SF := B_is_light_of call 10 12
theorem e_is_light_of (call : Nat → List D → M D) : dSs 60 ((s_is_light_of.dd top).ct gl kw call) (s_is_light_of.dd top).body = b_is_light_of call := by kernel_rfl
noncomputable def b_is_lamp_of (call : Nat → List D → M D) : SF := B_is_lamp_of call 14 6
theorem e_is_lamp_of (call : Nat → List D → M D) : dSs 60 ((s_is_lamp_of.dd top).ct gl kw call) (s_is_lamp_of.dd top).body = b_is_lamp_of call := by kernel_rfl
noncomputable def b_is_surface_of (call : Nat → List D → M D) : SF := B_is_surface_of call 10 13
theorem e_is_surface_of (call : Nat → List D → M D) : dSs 60 ((s_is_surface_of.dd top).ct gl kw call) (s_is_surface_of.dd top).body = b_is_surface_of call := by kernel_rfl
noncomputable def b_is_eye_of (call : Nat → List D → M D) : SF := B_is_eye_of call 8 15
theorem e_is_eye_of (call : Nat → List D → M D) : dSs 60 ((s_is_eye_of.dd top).ct gl kw call) (s_is_eye_of.dd top).body = b_is_eye_of call := by kernel_rfl
noncomputable def b_width_in (call : Nat → List D → M D) : SF := B_width_in call 8
theorem e_width_in (call : Nat → List D → M D) : dSs 60 ((s_width_in.dd top).ct gl kw call) (s_width_in.dd top).body = b_width_in call := by kernel_rfl
noncomputable def b_is_any_light (call : Nat → List D → M D) : SF := B_is_any_light call 18 14
theorem e_is_any_light (call : Nat → List D → M D) : dSs 60 ((s_is_any_light.dd top).ct gl kw call) (s_is_any_light.dd top).body = b_is_any_light call := by kernel_rfl
noncomputable def b_is_any_lamp (call : Nat → List D → M D) : SF := B_is_any_lamp call 19 6
theorem e_is_any_lamp (call : Nat → List D → M D) : dSs 60 ((s_is_any_lamp.dd top).ct gl kw call) (s_is_any_lamp.dd top).body = b_is_any_lamp call := by kernel_rfl
noncomputable def b_is_any_eye (call : Nat → List D → M D) : SF := B_is_any_eye call 8 18 17
theorem e_is_any_eye (call : Nat → List D → M D) : dSs 60 ((s_is_any_eye.dd top).ct gl kw call) (s_is_any_eye.dd top).body = b_is_any_eye call := by kernel_rfl
noncomputable def b_width_of (call : Nat → List D → M D) : SF := B_width_of call 
theorem e_width_of (call : Nat → List D → M D) : dSs 60 ((s_width_of.dd top).ct gl kw call) (s_width_of.dd top).body = b_width_of call := by kernel_rfl
noncomputable def b_check_eye (call : Nat → List D → M D) : SF := B_check_eye call 21
theorem e_check_eye (call : Nat → List D → M D) : dSs 60 ((s_check_eye.dd top).ct gl kw call) (s_check_eye.dd top).body = b_check_eye call := by kernel_rfl
noncomputable def b_check_light (call : Nat → List D → M D) : SF := B_check_light call 14
theorem e_check_light (call : Nat → List D → M D) : dSs 60 ((s_check_light.dd top).ct gl kw call) (s_check_light.dd top).body = b_check_light call := by kernel_rfl
noncomputable def b_check_any_lamp (call : Nat → List D → M D) : SF := B_check_any_lamp call 20
theorem e_check_any_lamp (call : Nat → List D → M D) : dSs 60 ((s_check_any_lamp.dd top).ct gl kw call) (s_check_any_lamp.dd top).body = b_check_any_lamp call := by kernel_rfl
noncomputable def b_check_lamp (call : Nat → List D → M D) : SF := B_check_lamp call 15
theorem e_check_lamp (call : Nat → List D → M D) : dSs 60 ((s_check_lamp.dd top).ct gl kw call) (s_check_lamp.dd top).body = b_check_lamp call := by kernel_rfl
noncomputable def b_check_surface (call : Nat → List D → M D) : SF := B_check_surface call 16
theorem e_check_surface (call : Nat → List D → M D) : dSs 60 ((s_check_surface.dd top).ct gl kw call) (s_check_surface.dd top).body = b_check_surface call := by kernel_rfl
noncomputable def b_look_by (call : Nat → List D → M D) : SF := B_look_by call 4
theorem e_look_by (call : Nat → List D → M D) : dSs 60 ((s_look_by.dd top).ct gl kw call) (s_look_by.dd top).body = b_look_by call := by kernel_rfl
noncomputable def b_lit_by (call : Nat → List D → M D) : SF := B_lit_by call 5
theorem e_lit_by (call : Nat → List D → M D) : dSs 60 ((s_lit_by.dd top).ct gl kw call) (s_lit_by.dd top).body = b_lit_by call := by kernel_rfl
noncomputable def b_look_under_by (call : Nat → List D → M D) : SF := B_look_under_by call 28 29
theorem e_look_under_by (call : Nat → List D → M D) : dSs 60 ((s_look_under_by.dd top).ct gl kw call) (s_look_under_by.dd top).body = b_look_under_by call := by kernel_rfl
noncomputable def b_is_light (call : Nat → List D → M D) : SF := B_is_light call 19
theorem e_is_light (call : Nat → List D → M D) : dSs 60 ((s_is_light.dd top).ct gl kw call) (s_is_light.dd top).body = b_is_light call := by kernel_rfl
noncomputable def b_look_of (call : Nat → List D → M D) : SF := B_look_of call 23 24 22 28
theorem e_look_of (call : Nat → List D → M D) : dSs 60 ((s_look_of.dd top).ct gl kw call) (s_look_of.dd top).body = b_look_of call := by kernel_rfl
noncomputable def b_lit (call : Nat → List D → M D) : SF := B_lit call 25 27 29
theorem e_lit (call : Nat → List D → M D) : dSs 60 ((s_lit.dd top).ct gl kw call) (s_lit.dd top).body = b_lit call := by kernel_rfl
noncomputable def b_look_under (call : Nat → List D → M D) : SF := B_look_under call 23 26 22 27 30
theorem e_look_under (call : Nat → List D → M D) : dSs 60 ((s_look_under.dd top).ct gl kw call) (s_look_under.dd top).body = b_look_under call := by kernel_rfl
noncomputable def b__law_pool (call : Nat → List D → M D) : SF := B__law_pool call 5947 595 35709 9071 54233 2147483587 2147483647 2147483587 29635 2147483647
theorem e__law_pool (call : Nat → List D → M D) : dSs 60 ((s__law_pool.dd top).ct gl kw call) (s__law_pool.dd top).body = b__law_pool call := by kernel_rfl
noncomputable def b__law_below (call : Nat → List D → M D) : SF := B__law_below call 49333 3983 2147483563 3989 14853 2147483563 359
theorem e__law_below (call : Nat → List D → M D) : dSs 60 ((s__law_below.dd top).ct gl kw call) (s__law_below.dd top).body = b__law_below call := by kernel_rfl
noncomputable def b__law_one (call : Nat → List D → M D) : SF := B__law_one call 36
theorem e__law_one (call : Nat → List D → M D) : dSs 60 ((s__law_one.dd top).ct gl kw call) (s__law_one.dd top).body = b__law_one call := by kernel_rfl
noncomputable def b__law_ratio (call : Nat → List D → M D) : SF := B__law_ratio call 
theorem e__law_ratio (call : Nat → List D → M D) : dSs 60 ((s__law_ratio.dd top).ct gl kw call) (s__law_ratio.dd top).body = b__law_ratio call := by kernel_rfl
noncomputable def b__law_plus (call : Nat → List D → M D) : SF := B__law_plus call 38
theorem e__law_plus (call : Nat → List D → M D) : dSs 60 ((s__law_plus.dd top).ct gl kw call) (s__law_plus.dd top).body = b__law_plus call := by kernel_rfl
noncomputable def b__law_times (call : Nat → List D → M D) : SF := B__law_times call 38
theorem e__law_times (call : Nat → List D → M D) : dSs 60 ((s__law_times.dd top).ct gl kw call) (s__law_times.dd top).body = b__law_times call := by kernel_rfl
noncomputable def b__law_dot (call : Nat → List D → M D) : SF := B__law_dot call 39 40
theorem e__law_dot (call : Nat → List D → M D) : dSs 60 ((s__law_dot.dd top).ct gl kw call) (s__law_dot.dd top).body = b__law_dot call := by kernel_rfl
noncomputable def b__law_content (call : Nat → List D → M D) : SF := B__law_content call 36 38
theorem e__law_content (call : Nat → List D → M D) : dSs 60 ((s__law_content.dd top).ct gl kw call) (s__law_content.dd top).body = b__law_content call := by kernel_rfl
noncomputable def b__law_share (call : Nat → List D → M D) : SF := B__law_share call 37 36 38
theorem e__law_share (call : Nat → List D → M D) : dSs 60 ((s__law_share.dd top).ct gl kw call) (s__law_share.dd top).body = b__law_share call := by kernel_rfl
noncomputable def b__law_light (call : Nat → List D → M D) : SF := B__law_light call 42
theorem e__law_light (call : Nat → List D → M D) : dSs 60 ((s__law_light.dd top).ct gl kw call) (s__law_light.dd top).body = b__law_light call := by kernel_rfl
noncomputable def b__law_lamp (call : Nat → List D → M D) : SF := B__law_lamp call 44 36
theorem e__law_lamp (call : Nat → List D → M D) : dSs 60 ((s__law_lamp.dd top).ct gl kw call) (s__law_lamp.dd top).body = b__law_lamp call := by kernel_rfl
noncomputable def b__law_surface (call : Nat → List D → M D) : SF := B__law_surface call 43
theorem e__law_surface (call : Nat → List D → M D) : dSs 60 ((s__law_surface.dd top).ct gl kw call) (s__law_surface.dd top).body = b__law_surface call := by kernel_rfl
noncomputable def b__law_eye (call : Nat → List D → M D) : SF := B__law_eye call 36 45 37 39 40
theorem e__law_eye (call : Nat → List D → M D) : dSs 60 ((s__law_eye.dd top).ct gl kw call) (s__law_eye.dd top).body = b__law_eye call := by kernel_rfl
noncomputable def b__law_look (call : Nat → List D → M D) : SF := B__law_look call 41
theorem e__law_look (call : Nat → List D → M D) : dSs 60 ((s__law_look.dd top).ct gl kw call) (s__law_look.dd top).body = b__law_look call := by kernel_rfl
noncomputable def b__law_lit (call : Nat → List D → M D) : SF := B__law_lit call 40
theorem e__law_lit (call : Nat → List D → M D) : dSs 60 ((s__law_lit.dd top).ct gl kw call) (s__law_lit.dd top).body = b__law_lit call := by kernel_rfl
noncomputable def b__law_same (call : Nat → List D → M D) : SF := B__law_same call 50
theorem e__law_same (call : Nat → List D → M D) : dSs 60 ((s__law_same.dd top).ct gl kw call) (s__law_same.dd top).body = b__law_same call := by kernel_rfl
noncomputable def b__law_right (call : Nat → List D → M D) : SF := sSeq (sFor (wRng1 (aCons (eC (.int 20)) aNil)) (gNm 1) (sSeq (sAs (eBin addD (eC (.int 1)) (eBin modD (eCB (un intD) (aCons (eVar 1) aNil)) (eC (.int 6)))) (gNm 2)) (sSeq (sP3 3 4 5 (aCons (eCB (call 47) (aCons (eVar 0) (aCons (eVar 2) (aCons (eC (.int 4)) aNil)))) (aCons (eCB (call 44) (aCons (eVar 0) (aCons (eVar 2) aNil))) (aCons (eCB (call 44) (aCons (eVar 0) (aCons (eVar 2) aNil))) aNil)))) (sSeq (sP2 6 7 (aCons (eCB (call 45) (aCons (eVar 0) (aCons (eVar 2) aNil))) (aCons (eCB (call 46) (aCons (eVar 0) (aCons (eVar 2) aNil))) aNil))) (sSeq (sAs (eIf (tBl (eBin eqD (eVar 1) (eC (.int 3)))) (eCK (call 32) [1, 0] aNil (aCons (eVar 4) (aCons (eVar 3) aNil))) (eCB (call 32) (aCons (eVar 3) (aCons (eVar 4) aNil)))) (gNm 8)) (sSeq (sIf (fNot (tTr (eCB (call 50) (aCons (eVar 8) (aCons (eCB (call 48) (aCons (eVar 3) (aCons (eVar 4) aNil))) aNil))))) (sSeq (sRt (eC (.bl false))) (sNx)) (sNx)) (sSeq (sAs (eIf (tBl (eBin eqD (eVar 1) (eC (.int 4)))) (eCK (call 33) [1, 0] aNil (aCons (eVar 7) (aCons (eVar 6) aNil))) (eCB (call 33) (aCons (eVar 6) (aCons (eVar 7) aNil)))) (gNm 9)) (sSeq (sIf (fOr (fNot (tTr (eCB (call 50) (aCons (eVar 9) (aCons (eCB (call 49) (aCons (eVar 6) (aCons (eVar 7) aNil))) aNil))))) (tBl (eBin isnD (eCB (call 31) (aCons (eVar 9) aNil)) (eC (.bl true))))) (sSeq (sRt (eC (.bl false))) (sNx)) (sNx)) (sSeq (sAs (eIf (tBl (eBin eqD (eVar 1) (eC (.int 5)))) (eCK (call 34) [2, 1, 0] aNil (aCons (eVar 7) (aCons (eVar 6) (aCons (eVar 3) aNil)))) (eCB (call 34) (aCons (eVar 3) (aCons (eVar 6) (aCons (eVar 7) aNil))))) (gNm 9)) (sSeq (sIf (fOr (fNot (tTr (eCB (call 50) (aCons (eVar 9) (aCons (eCB (call 48) (aCons (eVar 3) (aCons (eCB (call 49) (aCons (eVar 6) (aCons (eVar 7) aNil))) aNil))) aNil))))) (fNot (tTr (eCB (call 50) (aCons (eVar 9) (aCons (eCB (call 32) (aCons (eVar 3) (aCons (eCB (call 33) (aCons (eVar 6) (aCons (eVar 7) aNil))) aNil))) aNil)))))) (sSeq (sRt (eC (.bl false))) (sNx)) (sNx)) (sSeq (sAs (eCB (un tupD) (aCons (eComp [11, 12] (wZip (aCons (eVar 4) (aCons (eVar 5) aNil))) (gTp 2 (gsCons (gNm 11) (gsCons (gNm 12) gsNil))) fYes (eCB (call 39) (aCons (eVar 11) (aCons (eVar 12) aNil))) false) aNil)) (gNm 10)) (sSeq (sIf (fNot (tTr (eCB (call 50) (aCons (eCB (call 32) (aCons (eVar 3) (aCons (eVar 10) aNil))) (aCons (eCB (un tupD) (aCons (eComp [11, 12] (wZip (aCons (eVar 8) (aCons (eCB (call 32) (aCons (eVar 3) (aCons (eVar 5) aNil))) aNil))) (gTp 2 (gsCons (gNm 11) (gsCons (gNm 12) gsNil))) fYes (eCB (call 39) (aCons (eVar 11) (aCons (eVar 12) aNil))) false) aNil)) aNil))))) (sSeq (sRt (eC (.bl false))) (sNx)) (sNx)) (sSeq (sIf (fOr (fNot (tTr (eCB (call 50) (aCons (eCB (call 33) (aCons (eVar 6) (aCons (eBin mulD (eTup (aCons (eTup (aCons (eC (.int 1)) (aCons (eC (.int 1)) aNil))) aNil)) (eVar 2)) aNil))) (aCons (eVar 6) aNil))))) (fNot (tTr (eCB (call 50) (aCons (eCB (call 34) (aCons (eVar 3) (aCons (eVar 6) (aCons (eBin mulD (eTup (aCons (eTup (aCons (eC (.int 0)) (aCons (eC (.int 1)) aNil))) aNil)) (eVar 2)) aNil)))) (aCons (eBin mulD (eTup (aCons (eTup (aCons (eC (.int 0)) (aCons (eC (.int 1)) aNil))) aNil)) (eCB (un lenD) (aCons (eVar 3) aNil))) aNil)))))) (sSeq (sRt (eC (.bl false))) (sNx)) (sNx)) (sNx)))))))))))))) (sSeq (sRt (eC (.bl true))) (sNx))
theorem e__law_right (call : Nat → List D → M D) : dSs 60 ((s__law_right.dd top).ct gl kw call) (s__law_right.dd top).body = b__law_right call := by kernel_rfl
noncomputable def b_law (call : Nat → List D → M D) : SF := sSeq (sRt (eCB (un allD) (aCons (eComp [1] (wRng1 (aCons (eCB (bi max2D) (aCons (eC (.int 1)) (aCons (eCB (bi min2D) (aCons (eCB (un lenD) (aCons (eVar 0) aNil)) (aCons (eC (.int 2)) aNil))) aNil))) aNil)) (gNm 1) fYes (eCB (call 51) (aCons (eCB (call 35) (aCons (eVar 0) (aCons (eVar 1) aNil))) aNil)) false) aNil))) (sNx)
theorem e_law (call : Nat → List D → M D) : dSs 60 ((s_law.dd top).ct gl kw call) (s_law.dd top).body = b_law call := by kernel_rfl
theorem c_ratio (k : Nat) (x0 x1 : D) : cal (k + 1) 0 [x0, x1] = runB (b_ratio (cal k)) [some x0, some x1, none] := callT_one (d := s_ratio.dd top) rfl (e_ratio _) rfl
theorem c_plus (k : Nat) (x0 x1 : D) : cal (k + 1) 1 [x0, x1] = runB (b_plus (cal k)) [some x0, some x1] := callT_one (d := s_plus.dd top) rfl (e_plus _) rfl
theorem c_times (k : Nat) (x0 x1 : D) : cal (k + 1) 2 [x0, x1] = runB (b_times (cal k)) [some x0, some x1] := callT_one (d := s_times.dd top) rfl (e_times _) rfl
theorem c_sum_of (k : Nat) (x0 : D) : cal (k + 1) 3 [x0] = runB (b_sum_of (cal k)) [some x0, none, none] := callT_one (d := s_sum_of.dd top) rfl (e_sum_of _) rfl
theorem c_dot (k : Nat) (x0 x1 : D) : cal (k + 1) 4 [x0, x1] = runB (b_dot (cal k)) [some x0, some x1, none, none] := callT_one (d := s_dot.dd top) rfl (e_dot _) rfl
theorem c_products (k : Nat) (x0 x1 : D) : cal (k + 1) 5 [x0, x1] = runB (b_products (cal k)) [some x0, some x1, none, none] := callT_one (d := s_products.dd top) rfl (e_products _) rfl
theorem c_are_zero (k : Nat) (x0 : D) : cal (k + 1) 6 [x0] = runB (b_are_zero (cal k)) [some x0, none] := callT_one (d := s_are_zero.dd top) rfl (e_are_zero _) rfl
theorem c_is_whole (k : Nat) (x0 : D) : cal (k + 1) 7 [x0] = runB (b_is_whole (cal k)) [some x0] := callT_one (d := s_is_whole.dd top) rfl (e_is_whole _) rfl
theorem c_is_tuple_up_to (k : Nat) (x0 x1 x2 : D) : cal (k + 1) 8 [x0, x1, x2] = runB (b_is_tuple_up_to (cal k)) [some x0, some x1, some x2] := callT_one (d := s_is_tuple_up_to.dd top) rfl (e_is_tuple_up_to _) rfl
theorem c_is_tuple_of (k : Nat) (x0 x1 : D) : cal (k + 1) 9 [x0, x1] = runB (b_is_tuple_of (cal k)) [some x0, some x1] := callT_one (d := s_is_tuple_of.dd top) rfl (e_is_tuple_of _) rfl
theorem c_are_all (k : Nat) (x0 x1 x2 : D) : cal (k + 1) 10 [x0, x1, x2] = runB (b_are_all (cal k)) [some x0, some x1, some x2, none] := callT_one (d := s_are_all.dd top) rfl (e_are_all _) rfl
theorem c_is_ratio (k : Nat) (x0 : D) : cal (k + 1) 11 [x0] = runB (b_is_ratio (cal k)) [some x0] := callT_one (d := s_is_ratio.dd top) rfl (e_is_ratio _) rfl
theorem c_is_content (k : Nat) (x0 : D) : cal (k + 1) 12 [x0] = runB (b_is_content (cal k)) [some x0] := callT_one (d := s_is_content.dd top) rfl (e_is_content _) rfl
theorem c_is_share (k : Nat) (x0 : D) : cal (k + 1) 13 [x0] = runB (b_is_share (cal k)) [some x0] := callT_one (d := s_is_share.dd top) rfl (e_is_share _) rfl
theorem c_is_light_of (k : Nat) (x0 x1 : D) : cal (k + 1) 14 [x0, x1] = runB (b_is_light_of (cal k)) [some x0, some x1] := callT_one (d := s_is_light_of.dd top) rfl (e_is_light_of _) rfl
theorem c_is_lamp_of (k : Nat) (x0 x1 : D) : cal (k + 1) 15 [x0, x1] = runB (b_is_lamp_of (cal k)) [some x0, some x1] := callT_one (d := s_is_lamp_of.dd top) rfl (e_is_lamp_of _) rfl
theorem c_is_surface_of (k : Nat) (x0 x1 : D) : cal (k + 1) 16 [x0, x1] = runB (b_is_surface_of (cal k)) [some x0, some x1] := callT_one (d := s_is_surface_of.dd top) rfl (e_is_surface_of _) rfl
theorem c_is_eye_of (k : Nat) (x0 x1 : D) : cal (k + 1) 17 [x0, x1] = runB (b_is_eye_of (cal k)) [some x0, some x1, none] := callT_one (d := s_is_eye_of.dd top) rfl (e_is_eye_of _) rfl
theorem c_width_in (k : Nat) (x0 : D) : cal (k + 1) 18 [x0] = runB (b_width_in (cal k)) [some x0] := callT_one (d := s_width_in.dd top) rfl (e_width_in _) rfl
theorem c_is_any_light (k : Nat) (x0 : D) : cal (k + 1) 19 [x0] = runB (b_is_any_light (cal k)) [some x0] := callT_one (d := s_is_any_light.dd top) rfl (e_is_any_light _) rfl
theorem c_is_any_lamp (k : Nat) (x0 : D) : cal (k + 1) 20 [x0] = runB (b_is_any_lamp (cal k)) [some x0] := callT_one (d := s_is_any_lamp.dd top) rfl (e_is_any_lamp _) rfl
theorem c_is_any_eye (k : Nat) (x0 : D) : cal (k + 1) 21 [x0] = runB (b_is_any_eye (cal k)) [some x0] := callT_one (d := s_is_any_eye.dd top) rfl (e_is_any_eye _) rfl
theorem c_width_of (k : Nat) (x0 : D) : cal (k + 1) 22 [x0] = runB (b_width_of (cal k)) [some x0] := callT_one (d := s_width_of.dd top) rfl (e_width_of _) rfl
theorem c_check_eye (k : Nat) (x0 : D) : cal (k + 1) 23 [x0] = runB (b_check_eye (cal k)) [some x0] := callT_one (d := s_check_eye.dd top) rfl (e_check_eye _) rfl
theorem c_check_light (k : Nat) (x0 x1 : D) : cal (k + 1) 24 [x0, x1] = runB (b_check_light (cal k)) [some x0, some x1] := callT_one (d := s_check_light.dd top) rfl (e_check_light _) rfl
theorem c_check_any_lamp (k : Nat) (x0 : D) : cal (k + 1) 25 [x0] = runB (b_check_any_lamp (cal k)) [some x0] := callT_one (d := s_check_any_lamp.dd top) rfl (e_check_any_lamp _) rfl
theorem c_check_lamp (k : Nat) (x0 x1 : D) : cal (k + 1) 26 [x0, x1] = runB (b_check_lamp (cal k)) [some x0, some x1] := callT_one (d := s_check_lamp.dd top) rfl (e_check_lamp _) rfl
theorem c_check_surface (k : Nat) (x0 x1 : D) : cal (k + 1) 27 [x0, x1] = runB (b_check_surface (cal k)) [some x0, some x1] := callT_one (d := s_check_surface.dd top) rfl (e_check_surface _) rfl
theorem c_look_by (k : Nat) (x0 x1 : D) : cal (k + 1) 28 [x0, x1] = runB (b_look_by (cal k)) [some x0, some x1, none] := callT_one (d := s_look_by.dd top) rfl (e_look_by _) rfl
theorem c_lit_by (k : Nat) (x0 x1 : D) : cal (k + 1) 29 [x0, x1] = runB (b_lit_by (cal k)) [some x0, some x1] := callT_one (d := s_lit_by.dd top) rfl (e_lit_by _) rfl
theorem c_look_under_by (k : Nat) (x0 x1 x2 : D) : cal (k + 1) 30 [x0, x1, x2] = runB (b_look_under_by (cal k)) [some x0, some x1, some x2] := callT_one (d := s_look_under_by.dd top) rfl (e_look_under_by _) rfl
theorem c_is_light (k : Nat) (x0 : D) : cal (k + 1) 31 [x0] = runB (b_is_light (cal k)) [some x0] := callT_one (d := s_is_light.dd top) rfl (e_is_light _) rfl
theorem c_look_of (k : Nat) (x0 x1 : D) : cal (k + 1) 32 [x0, x1] = runB (b_look_of (cal k)) [some x0, some x1] := callT_one (d := s_look_of.dd top) rfl (e_look_of _) rfl
theorem c_lit (k : Nat) (x0 x1 : D) : cal (k + 1) 33 [x0, x1] = runB (b_lit (cal k)) [some x0, some x1] := callT_one (d := s_lit.dd top) rfl (e_lit _) rfl
theorem c_look_under (k : Nat) (x0 x1 x2 : D) : cal (k + 1) 34 [x0, x1, x2] = runB (b_look_under (cal k)) [some x0, some x1, some x2] := callT_one (d := s_look_under.dd top) rfl (e_look_under _) rfl
theorem c__law_pool (k : Nat) (x0 x1 : D) : cal (k + 1) 35 [x0, x1] = runB (b__law_pool (cal k)) [some x0, some x1, none, none, none] := callT_one (d := s__law_pool.dd top) rfl (e__law_pool _) rfl
theorem c__law_below (k : Nat) (x0 x1 : D) : cal (k + 1) 36 [x0, x1] = runB (b__law_below (cal k)) [some x0, some x1, none, none] := callT_one (d := s__law_below.dd top) rfl (e__law_below _) rfl
theorem c__law_one (k : Nat) (x0 x1 : D) : cal (k + 1) 37 [x0, x1] = runB (b__law_one (cal k)) [some x0, some x1] := callT_one (d := s__law_one.dd top) rfl (e__law_one _) rfl
theorem c__law_ratio (k : Nat) (x0 x1 : D) : cal (k + 1) 38 [x0, x1] = runB (b__law_ratio (cal k)) [some x0, some x1, none, none] := callT_one (d := s__law_ratio.dd top) rfl (e__law_ratio _) rfl
theorem c__law_plus (k : Nat) (x0 x1 : D) : cal (k + 1) 39 [x0, x1] = runB (b__law_plus (cal k)) [some x0, some x1] := callT_one (d := s__law_plus.dd top) rfl (e__law_plus _) rfl
theorem c__law_times (k : Nat) (x0 x1 : D) : cal (k + 1) 40 [x0, x1] = runB (b__law_times (cal k)) [some x0, some x1] := callT_one (d := s__law_times.dd top) rfl (e__law_times _) rfl
theorem c__law_dot (k : Nat) (x0 x1 : D) : cal (k + 1) 41 [x0, x1] = runB (b__law_dot (cal k)) [some x0, some x1, none, none, none] := callT_one (d := s__law_dot.dd top) rfl (e__law_dot _) rfl
theorem c__law_content (k : Nat) (x0 : D) : cal (k + 1) 42 [x0] = runB (b__law_content (cal k)) [some x0, none] := callT_one (d := s__law_content.dd top) rfl (e__law_content _) rfl
theorem c__law_share (k : Nat) (x0 : D) : cal (k + 1) 43 [x0] = runB (b__law_share (cal k)) [some x0, none] := callT_one (d := s__law_share.dd top) rfl (e__law_share _) rfl
theorem c__law_light (k : Nat) (x0 x1 : D) : cal (k + 1) 44 [x0, x1] = runB (b__law_light (cal k)) [some x0, some x1, none] := callT_one (d := s__law_light.dd top) rfl (e__law_light _) rfl
theorem c__law_lamp (k : Nat) (x0 x1 : D) : cal (k + 1) 45 [x0, x1] = runB (b__law_lamp (cal k)) [some x0, some x1, none, none] := callT_one (d := s__law_lamp.dd top) rfl (e__law_lamp _) rfl
theorem c__law_surface (k : Nat) (x0 x1 : D) : cal (k + 1) 46 [x0, x1] = runB (b__law_surface (cal k)) [some x0, some x1, none] := callT_one (d := s__law_surface.dd top) rfl (e__law_surface _) rfl
theorem c__law_eye (k : Nat) (x0 x1 x2 : D) : cal (k + 1) 47 [x0, x1, x2] = fin (runB (b__law_eye (cal k)) [some x0, some x1, some x2, none, none, none, none, none, none, none, none, none, none, none, none]) := callT_fin (d := s__law_eye.dd top) rfl (e__law_eye _) rfl
theorem c__law_look (k : Nat) (x0 x1 : D) : cal (k + 1) 48 [x0, x1] = runB (b__law_look (cal k)) [some x0, some x1, none] := callT_one (d := s__law_look.dd top) rfl (e__law_look _) rfl
theorem c__law_lit (k : Nat) (x0 x1 : D) : cal (k + 1) 49 [x0, x1] = runB (b__law_lit (cal k)) [some x0, some x1, none, none] := callT_one (d := s__law_lit.dd top) rfl (e__law_lit _) rfl
theorem c__law_same (k : Nat) (x0 x1 : D) : cal (k + 1) 50 [x0, x1] = runB (b__law_same (cal k)) [some x0, some x1, none, none] := callT_one (d := s__law_same.dd top) rfl (e__law_same _) rfl
theorem c__law_right (k : Nat) (x0 : D) : cal (k + 1) 51 [x0] = runB (b__law_right (cal k)) [some x0, none, none, none, none, none, none, none, none, none, none, none, none] := callT_one (d := s__law_right.dd top) rfl (e__law_right _) rfl
theorem c_law (k : Nat) (x0 : D) : cal (k + 1) 52 [x0] = runB (b_law (cal k)) [some x0, none] := callT_one (d := s_law.dd top) rfl (e_law _) rfl
end K03
set_option Elab.async false
set_option linter.all false
set_option maxRecDepth 100000
set_option maxHeartbeats 4000000
set_option exponentiation.threshold 100
namespace K03
open PySem L3
theorem i_ratio (k : Nat) : IsRatio (cal (k + 1)) 0 := fun t l h h9 => (c_ratio k _ _).trans (ratio_ok h h9)
theorem i_plus (k : Nat) : IsPlus (cal (k + 2)) 1 := fun a b m n ha hb h => (c_plus (k + 1) _ _).trans (plus_ok (i_ratio k) ha hb h)
theorem i_times (k : Nat) : IsTimes (cal (k + 2)) 2 := fun a b m n ha hb h => (c_times (k + 1) _ _).trans (times_ok (i_ratio k) ha hb h)
theorem i_sum_of (k : Nat) : IsSum (cal (k + 3)) 3 := fun qs n h hb => (c_sum_of (k + 2) _).trans (sum_ok (i_plus k) h hb)
theorem i_dot (k : Nat) : IsDot (cal (k + 4)) 4 := fun a b m n ha hb h => (c_dot (k + 3) _ _).trans (dot_ok (i_sum_of k) (i_times (k + 1)) ha hb h)
theorem i_products (k : Nat) : IsProds (cal (k + 3)) 5 := fun a b m n ha hb h hl => (c_products (k + 2) _ _).trans (prods_ok (i_times k) ha hb h hl)
theorem i_are_zero (k : Nat) : IsZeroP (cal (k + 1)) 6 := fun qs h => (c_are_zero k _).trans (are_zero_ok h)
theorem i_is_whole (k : Nat) : IsWholeT (cal (k + 1)) 7 := fun n => (c_is_whole k _).trans (is_whole_ok n)
theorem i_is_tuple_up_to (k : Nat) : IsUpTo (cal (k + 1)) 8 := fun ds lo hi => (c_is_tuple_up_to k _ _ _).trans (is_tuple_up_to_ok ds lo hi)
theorem i_is_tuple_of (k : Nat) : IsTupOf (cal (k + 2)) 9 := fun ds n => (c_is_tuple_of (k + 1) _ _).trans (is_tuple_of_ok (i_is_tuple_up_to k) ds n)
theorem i_are_all (k : Nat) : IsAllT (cal (k + 3)) (cal (k + 2)) 10 := fun ds n j hn hl ha => (c_are_all (k + 2) _ _ _).trans (are_all_ok (i_is_tuple_of k) hn hl ha)
theorem i_is_ratio (k : Nat) : IsRatT (cal (k + 4)) 11 := fun q => (c_is_ratio (k + 3) _).trans (is_ratio_ok (i_are_all k) (i_is_whole (k + 1)) q)
theorem i_is_content (k : Nat) : IsContT (cal (k + 5)) 12 := fun q h => (c_is_content (k + 4) _).trans (is_content_ok (i_is_ratio k) h)
theorem i_is_share (k : Nat) : IsShareT (cal (k + 6)) 13 := fun q h h1 => (c_is_share (k + 5) _).trans (is_share_ok (i_is_content k) h h1)
theorem i_is_light_of (k : Nat) : IsLightT (cal (k + 7)) 14 := fun qs h hl => (c_is_light_of (k + 6) _ _).trans (is_light_of_ok (i_are_all (k + 3)) (i_is_content k) h hl)
theorem i_is_lamp_of (k : Nat) : IsLampT (cal (k + 8)) 15 := fun qs h hz hl => (c_is_lamp_of (k + 7) _ _).trans (is_lamp_of_ok (i_is_light_of k) (i_are_zero (k + 6)) h hz hl)
theorem i_is_surface_of (k : Nat) : IsSurfT (cal (k + 8)) 16 := fun qs h hl => (c_is_surface_of (k + 7) _ _).trans (is_surface_of_ok (i_are_all (k + 4)) (i_is_share k) h hl)
theorem i_is_eye_of (k : Nat) : IsEyeOfT (cal (k + 9)) 17 := fun w rows hw h => (c_is_eye_of (k + 8) _ _).trans (is_eye_of_ok (i_is_tuple_up_to (k + 7)) (i_is_lamp_of k) hw h)
theorem i_width_in (k : Nat) : IsWidthIn (cal (k + 2)) 18 := fun ds ha hb => (c_width_in (k + 1) _).trans (width_in_ok (i_is_tuple_up_to k) ha hb)
theorem i_is_any_light (k : Nat) : IsAnyLightT (cal (k + 8)) 19 := fun qs h ha hb => (c_is_any_light (k + 7) _).trans (is_any_light_ok (i_width_in (k + 5)) (i_is_light_of k) h ha hb)
theorem i_is_any_lamp (k : Nat) : IsAnyLampT (cal (k + 9)) 20 := fun qs h hz ha hb => (c_is_any_lamp (k + 8) _).trans (is_any_lamp_ok (i_is_any_light k) (i_are_zero (k + 7)) h hz ha hb)
theorem i_is_any_eye (k : Nat) : IsAnyEyeT (cal (k + 10)) 21 := fun w rows ha hb h => (c_is_any_eye (k + 9) _).trans (is_any_eye_ok (i_is_tuple_up_to (k + 8)) (i_width_in (k + 7)) (i_is_eye_of k) ha hb h)
theorem i_width_of (k : Nat) : IsWidthOf (cal (k + 1)) 22 := fun w rows h => (c_width_of k _).trans (width_of_ok h)
theorem i_check_eye (k : Nat) : IsCheckEye (cal (k + 11)) 23 := fun w rows ha hb h => (c_check_eye (k + 10) _).trans (check_eye_ok (i_is_any_eye k) ha hb h)
theorem i_check_light (k : Nat) : IsCheckLight (cal (k + 8)) 24 := fun qs h hl => (c_check_light (k + 7) _ _).trans (check_light_ok (i_is_light_of k) h hl)
theorem i_check_any_lamp (k : Nat) : IsCheckAnyLamp (cal (k + 10)) 25 := fun qs h hz ha hb => (c_check_any_lamp (k + 9) _).trans (check_any_lamp_ok (i_is_any_lamp k) h hz ha hb)
theorem i_check_lamp (k : Nat) : IsCheckLamp (cal (k + 9)) 26 := fun qs h hz hl => (c_check_lamp (k + 8) _ _).trans (check_lamp_ok (i_is_lamp_of k) h hz hl)
theorem i_check_surface (k : Nat) : IsCheckSurf (cal (k + 9)) 27 := fun qs h hl => (c_check_surface (k + 8) _ _).trans (check_surface_ok (i_is_surface_of k) h hl)
theorem i_look_by (k : Nat) : IsLookBy (cal (k + 5)) 28 := fun rows light m n w hr hl hb h4 => (c_look_by (k + 4) _ _).trans (look_by_ok (i_dot k) hr hl hb h4)
theorem i_lit_by (k : Nat) : IsProds (cal (k + 4)) 29 := fun a b m n ha hb h hl => (c_lit_by (k + 3) _ _).trans (lit_by_ok (i_products k) ha hb h hl)
theorem i_look_under_by (k : Nat) : IsLookUnderBy (cal (k + 6)) 30 := fun rows a b m n p w hr ha hb h h4 hl => (c_look_under_by (k + 5) _ _ _).trans (look_under_by_ok (i_look_by k) (i_lit_by (k + 1)) hr ha hb h h4 hl)
theorem i_is_light (k : Nat) : IsAnyLightT (cal (k + 9)) 31 := fun qs h ha hb => (c_is_light (k + 8) _).trans (is_light_ok (i_is_any_light k) h ha hb)
theorem i_look_of (k : Nat) : IsLookOf (cal (k + 12)) 32 := fun rows light m n w ha hb he hm hn hs hl hz => (c_look_of (k + 11) _ _).trans (look_of_ok (i_check_eye k) (i_check_light (k + 3)) (i_width_of (k + 10)) (i_look_by (k + 6)) ha hb he hm hn hs hl hz)
theorem i_lit (k : Nat) : IsLit (cal (k + 11)) 33 := fun a b m n w ha hb hla hlb hna hza hsb hma hmb hz => (c_lit (k + 10) _ _).trans (lit_ok (i_check_any_lamp k) (i_check_surface (k + 1)) (i_lit_by (k + 6)) ha hb hla hlb hna hza hsb hma hmb hz)
theorem i_look_under (k : Nat) : IsLookUnder (cal (k + 12)) 34 := fun rows a b m n p w ha hb he hm hla hlb hna hza hsb hma hmb hz => (c_look_under (k + 11) _ _ _).trans (look_under_ok (i_check_eye k) (i_check_lamp (k + 2)) (i_width_of (k + 10)) (i_check_surface (k + 2)) (i_look_under_by (k + 5)) ha hb he hm hla hlb hna hza hsb hma hmb hz)
theorem i__law_below (k : Nat) : IsBelow (cal (k + 1)) 36 := fun n b many hm h9 hb => (congrArg (Drw _ _ _ _) (c__law_below k _ _)).mpr (below_ok (call := cal k) ⟨by decide, by decide⟩ ⟨by decide, by decide⟩ ⟨by decide, by decide⟩ ⟨by decide, by decide⟩ ⟨by decide, by decide⟩ ⟨by decide, by decide⟩ ⟨by decide, by decide⟩ (by decide) (by decide) (by decide) (by decide) hm h9 hb)
theorem i__law_one (k : Nat) : IsOneT (cal (k + 2)) 37 := fun n b ds hd hl hb => (congrArg (Drw _ _ _ _) (c__law_one (k + 1) _ _)).mpr (law_one_tup (i__law_below k) hd hl hb)
theorem i__law_one_c (k : Nat) : IsOneC (cal (k + 2)) 37 := fun n m b ds g hm hc hd hl hb hg => by
  rw [c__law_one (k + 1)]
  exact law_one_cell (i__law_below k) hm hc hd hl hb hg
theorem i__law_ratio (k : Nat) : IsRatio (cal (k + 1)) 38 := fun t l h h9 => (c__law_ratio k _ _).trans (law_ratio_ok (call := cal k) h h9)
theorem i__law_plus (k : Nat) : IsPlus (cal (k + 2)) 39 := fun a b m n ha hb h => (c__law_plus (k + 1) _ _).trans (law_plus_ok (i__law_ratio k) ha hb h)
theorem i__law_times (k : Nat) : IsTimes (cal (k + 2)) 40 := fun a b m n ha hb h => (c__law_times (k + 1) _ _).trans (law_times_ok (i__law_ratio k) ha hb h)
theorem i__law_dot (k : Nat) : IsDot (cal (k + 3)) 41 := fun a b m n ha hb h => (c__law_dot (k + 2) _ _).trans (law_dot_ok (i__law_plus k) (i__law_times k) ha hb h)
theorem i__law_content (k : Nat) : IsDrw (cal (k + 2)) 42 3 (QP CN) := fun n b h => (congrArg (Drw _ _ _ _) (c__law_content (k + 1) _)).mpr (content_ok (i__law_below k) (i__law_ratio k) h)
theorem i__law_share (k : Nat) : IsDrw (cal (k + 3)) 43 4 (QP SHn) := fun n b h => (congrArg (Drw _ _ _ _) (c__law_share (k + 2) _)).mpr (share_ok (i__law_one k) (i__law_below (k + 1)) (i__law_ratio (k + 1)) h)
theorem i__law_light (k : Nat) : IsLightD (cal (k + 3)) 44 := fun n b w hw h => (congrArg (Drw _ _ _ _) (c__law_light (k + 2) _ _)).mpr (light_ok (i__law_content k) hw h)
theorem i__law_lamp (k : Nat) : IsLamp (cal (k + 4)) 45 := fun n b w ha hw h => (congrArg (Drw _ _ _ _) (c__law_lamp (k + 3) _ _)).mpr (lamp_ok (i__law_light k) (i__law_below (k + 2)) ha hw h)
theorem i__law_surface (k : Nat) : IsSurfD (cal (k + 4)) 46 := fun n b w hw h => (congrArg (Drw _ _ _ _) (c__law_surface (k + 3) _ _)).mpr (surface_ok (i__law_share k) hw h)
theorem i__law_eye (k : Nat) : IsEye (cal (k + 5)) 47 := fun n b w m hw1 hw hm1 hm hbb g hg hng => by
  rw [c__law_eye (k + 4)]
  exact eye_ok (i__law_below (k + 3)) (i__law_lamp k) (i__law_one_c (k + 2)) (i__law_plus (k + 2)) (i__law_times (k + 2)) hw1 hw hm1 hm hbb hg hng
theorem i__law_look (k : Nat) : IsLookBy (cal (k + 4)) 48 := fun rows light m n w hr hl hb h4 => (c__law_look (k + 3) _ _).trans (look_by_ok (i__law_dot k) hr hl hb h4)
theorem i__law_lit (k : Nat) : IsProds (cal (k + 3)) 49 := fun a b m n ha hb h hl => (c__law_lit (k + 2) _ _).trans (prods_ok (i__law_times k) ha hb h hl)
theorem i_same0 (k : Nat) (i : Int) : SameT (cal (k + 1)) 50 (.int i) := (c__law_same k _ _).trans (same_int i)
theorem i_same1 (k : Nat) (q : Rat) : SameT (cal (k + 2)) 50 (rt q) := (c__law_same (k + 1) _ _).trans (same_tup (show 2 ≤ lim by decide) fun d hd => by
  rcases List.mem_cons.mp hd with rfl | hd
  · exact i_same0 k _
  · rcases List.mem_cons.mp hd with rfl | hd
    · exact i_same0 k _
    · cases hd)
theorem i__law_same (k : Nat) : IsSame (cal (k + 3)) 50 := fun qs hl => (c__law_same (k + 2) _ _).trans (same_tup (by rw [rts_len]; exact hl) fun d hd => by
  obtain ⟨q, _, rfl⟩ := mem_rts hd
  exact i_same1 k q)
end K03
set_option Elab.async false
set_option linter.all false
set_option maxRecDepth 100000
set_option maxHeartbeats 4000000
set_option exponentiation.threshold 100
namespace K03
open PySem L3
noncomputable def r0 (call : Nat → List D → M D) : SF := sAs (eBin addD (eC (.int 1)) (eBin modD (eCB (un intD) (aCons (eVar 1) aNil)) (eC (.int 6)))) (gNm 2)
noncomputable def r1 (call : Nat → List D → M D) : SF := sP3 3 4 5 (aCons (eCB (call 47) (aCons (eVar 0) (aCons (eVar 2) (aCons (eC (.int 4)) aNil)))) (aCons (eCB (call 44) (aCons (eVar 0) (aCons (eVar 2) aNil))) (aCons (eCB (call 44) (aCons (eVar 0) (aCons (eVar 2) aNil))) aNil)))
noncomputable def r2 (call : Nat → List D → M D) : SF := sP2 6 7 (aCons (eCB (call 45) (aCons (eVar 0) (aCons (eVar 2) aNil))) (aCons (eCB (call 46) (aCons (eVar 0) (aCons (eVar 2) aNil))) aNil))
noncomputable def r3 (call : Nat → List D → M D) : SF := sAs (eIf (tBl (eBin eqD (eVar 1) (eC (.int 3)))) (eCK (call 32) [1, 0] aNil (aCons (eVar 4) (aCons (eVar 3) aNil))) (eCB (call 32) (aCons (eVar 3) (aCons (eVar 4) aNil)))) (gNm 8)
noncomputable def r4 (call : Nat → List D → M D) : SF := sIf (fNot (tTr (eCB (call 50) (aCons (eVar 8) (aCons (eCB (call 48) (aCons (eVar 3) (aCons (eVar 4) aNil))) aNil))))) (sSeq (sRt (eC (.bl false))) (sNx)) (sNx)
noncomputable def r5 (call : Nat → List D → M D) : SF := sAs (eIf (tBl (eBin eqD (eVar 1) (eC (.int 4)))) (eCK (call 33) [1, 0] aNil (aCons (eVar 7) (aCons (eVar 6) aNil))) (eCB (call 33) (aCons (eVar 6) (aCons (eVar 7) aNil)))) (gNm 9)
noncomputable def r6 (call : Nat → List D → M D) : SF := sIf (fOr (fNot (tTr (eCB (call 50) (aCons (eVar 9) (aCons (eCB (call 49) (aCons (eVar 6) (aCons (eVar 7) aNil))) aNil))))) (tBl (eBin isnD (eCB (call 31) (aCons (eVar 9) aNil)) (eC (.bl true))))) (sSeq (sRt (eC (.bl false))) (sNx)) (sNx)
noncomputable def r7 (call : Nat → List D → M D) : SF := sAs (eIf (tBl (eBin eqD (eVar 1) (eC (.int 5)))) (eCK (call 34) [2, 1, 0] aNil (aCons (eVar 7) (aCons (eVar 6) (aCons (eVar 3) aNil)))) (eCB (call 34) (aCons (eVar 3) (aCons (eVar 6) (aCons (eVar 7) aNil))))) (gNm 9)
noncomputable def r8 (call : Nat → List D → M D) : SF := sIf (fOr (fNot (tTr (eCB (call 50) (aCons (eVar 9) (aCons (eCB (call 48) (aCons (eVar 3) (aCons (eCB (call 49) (aCons (eVar 6) (aCons (eVar 7) aNil))) aNil))) aNil))))) (fNot (tTr (eCB (call 50) (aCons (eVar 9) (aCons (eCB (call 32) (aCons (eVar 3) (aCons (eCB (call 33) (aCons (eVar 6) (aCons (eVar 7) aNil))) aNil))) aNil)))))) (sSeq (sRt (eC (.bl false))) (sNx)) (sNx)
noncomputable def r9 (call : Nat → List D → M D) : SF := sAs (eCB (un tupD) (aCons (eComp [11, 12] (wZip (aCons (eVar 4) (aCons (eVar 5) aNil))) (gTp 2 (gsCons (gNm 11) (gsCons (gNm 12) gsNil))) fYes (eCB (call 39) (aCons (eVar 11) (aCons (eVar 12) aNil))) false) aNil)) (gNm 10)
noncomputable def r10 (call : Nat → List D → M D) : SF := sIf (fNot (tTr (eCB (call 50) (aCons (eCB (call 32) (aCons (eVar 3) (aCons (eVar 10) aNil))) (aCons (eCB (un tupD) (aCons (eComp [11, 12] (wZip (aCons (eVar 8) (aCons (eCB (call 32) (aCons (eVar 3) (aCons (eVar 5) aNil))) aNil))) (gTp 2 (gsCons (gNm 11) (gsCons (gNm 12) gsNil))) fYes (eCB (call 39) (aCons (eVar 11) (aCons (eVar 12) aNil))) false) aNil)) aNil))))) (sSeq (sRt (eC (.bl false))) (sNx)) (sNx)
noncomputable def r11 (call : Nat → List D → M D) : SF := sIf (fOr (fNot (tTr (eCB (call 50) (aCons (eCB (call 33) (aCons (eVar 6) (aCons (eBin mulD (eTup (aCons (eTup (aCons (eC (.int 1)) (aCons (eC (.int 1)) aNil))) aNil)) (eVar 2)) aNil))) (aCons (eVar 6) aNil))))) (fNot (tTr (eCB (call 50) (aCons (eCB (call 34) (aCons (eVar 3) (aCons (eVar 6) (aCons (eBin mulD (eTup (aCons (eTup (aCons (eC (.int 0)) (aCons (eC (.int 1)) aNil))) aNil)) (eVar 2)) aNil)))) (aCons (eBin mulD (eTup (aCons (eTup (aCons (eC (.int 0)) (aCons (eC (.int 1)) aNil))) aNil)) (eCB (un lenD) (aCons (eVar 3) aNil))) aNil)))))) (sSeq (sRt (eC (.bl false))) (sNx)) (sNx)
noncomputable def rB (call : Nat → List D → M D) : SF := sSeq (r0 call) (sSeq (r1 call) (sSeq (r2 call) (sSeq (r3 call) (sSeq (r4 call) (sSeq (r5 call) (sSeq (r6 call) (sSeq (r7 call) (sSeq (r8 call) (sSeq (r9 call) (sSeq (r10 call) (sSeq (r11 call) (sNx))))))))))))
theorem right_eq (call : Nat → List D → M D) : b__law_right call = sSeq (sFor (wRng1 (aCons (eC (.int 20)) aNil)) (gNm 1) (rB call)) (sSeq (sRt (eC (.bl true))) (sNx)) := rfl
structure Hc (call : Nat → List D → M D) : Prop where
  lt : IsAnyLightT call 31
  look : IsLookOf call 32
  lit : IsLit call 33
  under : IsLookUnder call 34
  plus : IsPlus call 39
  light : IsLightD call 44
  lamp : IsLamp call 45
  surf : IsSurfD call 46
  eye : IsEye call 47
  llook : IsLookBy call 48
  llit : IsProds call 49
  same : IsSame call 50
theorem hc (k : Nat) : Hc (cal (k + 12)) := ⟨i_is_light (k + 3), i_look_of k, i_lit (k + 1), i_look_under k, i__law_plus (k + 10), i__law_light (k + 9), i__law_lamp (k + 8), i__law_surface (k + 8), i__law_eye (k + 7), i__law_look (k + 8), i__law_lit (k + 9), i__law_same (k + 9)⟩
theorem lap_ok {call : Nat → List D → M D} (H : Hc call) {n b j : Nat} (hj : j < 20) (hbb : b + 200 ≤ 10 ^ 9) {g : G} (hg : Pool n b g) (hng : NoG g) {s1 s2 s3 s4 s5 s6 s7 s8 s9 s10 s11 s12 : Option D} :
    ∃ env' g', bnd (gNm 1 (.int (j : Nat)) [some (.ref n), s1, s2, s3, s4, s5, s6, s7, s8, s9, s10, s11, s12]) (rB call) g = .ok (.nx env') g' ∧ (∃ t1 t2 t3 t4 t5 t6 t7 t8 t9 t10 t11 t12, env' = [some (.ref n), t1, t2, t3, t4, t5, t6, t7, t8, t9, t10, t11, t12]) ∧ Pool n (b + 200) g' ∧ NoG g' ∧ Same n g g' := by
  obtain ⟨w, hw⟩ : ∃ w : Nat, w = 1 + j % 6 := ⟨_, rfl⟩
  have hw1 : 1 ≤ w := by omega
  have hw6 : w ≤ 6 := by omega
  have hwi : (1 : Int) + (j : Int) % 6 = (w : Int) := by omega
  obtain ⟨rs, g1, e1, ey, rsm, p1, q1⟩ := H.eye n b w 4 hw1 hw6 (by decide) (by decide) (by omega) g hg hng
  obtain ⟨y2, g2, e2, ⟨l, rfl, l1, l2⟩, p2, q2⟩ := H.light n (b + 100) w hw6 (by omega) g1 p1
  obtain ⟨y3, g3, e3, ⟨o, rfl, o1, o2⟩, p3, q3⟩ := H.light n (b + 100 + w * 3) w hw6 (by omega) g2 p2
  obtain ⟨y4, g4, e4, ⟨a, rfl, a1, a2, a3, a4⟩, p4, q4⟩ := H.lamp n (b + 100 + w * 3 + w * 3) w hw1 hw6 (by omega) g3 p3
  obtain ⟨y5, g5, e5, ⟨s, rfl, u1, u2⟩, p5, q5⟩ := H.surf n (b + 100 + w * 3 + w * 3 + 19) w hw6 (by omega) g4 p4
  have q : Same n g g5 := (((q1.trans q2).trans q3).trans q4).trans q5
  have lN : NN l := fun z hz => (l2 z hz).1
  have lS : SmL 40 l := fun z hz => (l2 z hz).2
  have oN : NN o := fun z hz => (o2 z hz).1
  have oS : SmL 40 o := fun z hz => (o2 z hz).2
  have uH : SH s := fun z hz => ⟨(u2 z hz).1, (u2 z hz).2.1⟩
  have uS : SmL 40 s := fun z hz => (u2 z hz).2.2
  have aw : ∀ t : Nat, t ≤ 81 → (w + 1) * (685 + t + 1) ≤ 8990 := fun t ht => Nat.le_trans (Nat.mul_le_mul (show w + 1 ≤ 7 by omega) (show 685 + t + 1 ≤ 767 by omega)) (by decide)
  have rl : ∀ r ∈ rs, r.length = w := fun r hr => (ey.2.2 r hr).1
  have rb : ∀ r ∈ rs, SmL 685 r ∧ r.length = w := fun r hr => ⟨rsm r hr, rl r hr⟩
  have hr4 : rs.length ≤ lim := four_lim ey.2.1
  have wl : w ≤ lim := six_lim hw6
  have pl : (prodQ a s).length = w := prod_len a1 u1
  have pN : NN (prodQ a s) := a2.prod uH.nn
  have pS : SmL 80 (prodQ a s) := prod_Sm a4 uS
  have bl : (addQ l o).length = w := add_len l1 o1
  have bN : NN (addQ l o) := lN.add oN
  have bS : SmL 81 (addQ l o) := add_Sm lS oS
  have kl : ∀ x : List Rat, (lookQ rs x).length ≤ lim := fun x => by
    unfold lookQ
    rw [List.length_map]
    exact hr4
  have c1 := H.look rs l 685 40 w hw1 hw6 ey rsm lN lS l1 (aw 40 (by decide))
  have c2 := H.llook rs l 685 40 w rb lS (aw 40 (by decide)) hr4
  have c3 := H.same (lookQ rs l) (kl l)
  have c4 := H.lit a s 40 40 w hw1 hw6 a1 u1 a2 a3 uH a4 uS (by decide)
  have c5 := H.llit a s 40 40 a4 uS (by decide) (by rw [a1]; exact wl)
  have c6 := H.same (prodQ a s) (by rw [pl]; exact wl)
  have c7 := H.lt (prodQ a s) pN (by omega) (by omega)
  have c8 := H.under rs a s 685 40 40 w hw1 hw6 ey rsm a1 u1 a2 a3 uH a4 uS (aw 80 (by decide))
  have c9 := H.llook rs (prodQ a s) 685 80 w rb pS (aw 80 (by decide)) hr4
  have c10 := H.same (lookQ rs (prodQ a s)) (kl _)
  have c11 := H.look rs (prodQ a s) 685 80 w hw1 hw6 ey rsm pN pS pl (aw 80 (by decide))
  have c12 := H.look rs (addQ l o) 685 81 w hw1 hw6 ey rsm bN bS bl (aw 81 (by decide))
  have c13 := H.look rs o 685 40 w hw1 hw6 ey rsm oN oS o1 (aw 40 (by decide))
  have c14 := H.same (lookQ rs (addQ l o)) (kl _)
  have c15 := H.lit a (List.replicate w 1) 40 1 w hw1 hw6 a1 List.length_replicate a2 a3 (ones_SH w).1 a4 (ones_SH w).2 (by decide)
  rw [prod_ones a1] at c15
  have c16 := H.same a (by rw [a1]; exact wl)
  have c17 := H.under rs a (List.replicate w 0) 685 40 1 w hw1 hw6 ey rsm a1 List.length_replicate a2 a3 (zeros_SH w).1 a4 (zeros_SH w).2 (aw 41 (by decide))
  rw [prod_zeros a1, look_zeros rl] at c17
  have c18 := H.same (List.replicate rs.length 0) (by rw [List.length_replicate]; exact hr4)
  have m1 := mul_rep hw1 (show w ≤ 1000 by omega) 1
  have m2 := mul_rep hw1 (show w ≤ 1000 by omega) 0
  have m3 := mul_rep ey.1 (show rs.length ≤ 1000 by have := ey.2.1; omega) 0
  have m4 : un lenD [eyeD rs] = ret (.int rs.length) := by
    have := len_tup (rs.map row)
    rw [List.length_map] at this
    exact this
  have k1 : SmL 4357 (lookQ rs l) := (look_Sm rb lS).mono (by have : w * (685 + 40 + 1) ≤ 6 * (685 + 40 + 1) := Nat.mul_le_mul_right _ hw6; omega)
  have k2 : SmL 4357 (lookQ rs o) := (look_Sm rb oS).mono (by have : w * (685 + 40 + 1) ≤ 6 * (685 + 40 + 1) := Nat.mul_le_mul_right _ hw6; omega)
  obtain ⟨E, hE⟩ : ∃ E : Option D → Option D → Option D → Env3, E = fun x8 x9 x10 => [some (.ref n), some (.int (j : Nat)), some (.int (w : Nat)), some (eyeD rs), some (row l), some (row o), some (row a), some (row s), x8, x9, x10, s11, s12] := ⟨_, rfl⟩
  have h3 : r3 call (E s8 s9 s10) = ret (.nx (E (some (row (lookQ rs l))) s9 s10)) := by
    subst hE
    unfold r3
    by_cases h : (j : Int) = 3 <;> simp [h, pm, c1]
  have h4 : r4 call (E (some (row (lookQ rs l))) s9 s10) = ret (.nx (E (some (row (lookQ rs l))) s9 s10)) := by
    subst hE
    unfold r4
    simp [c2, c3]
  have h5 : r5 call (E (some (row (lookQ rs l))) s9 s10) = ret (.nx (E (some (row (lookQ rs l))) (some (row (prodQ a s))) s10)) := by
    subst hE
    unfold r5
    by_cases h : (j : Int) = 4 <;> simp [h, pm, c4]
  have h6 : r6 call (E (some (row (lookQ rs l))) (some (row (prodQ a s))) s10) = ret (.nx (E (some (row (lookQ rs l))) (some (row (prodQ a s))) s10)) := by
    subst hE
    unfold r6
    simp [c5, c6, c7]
  have h7 : r7 call (E (some (row (lookQ rs l))) (some (row (prodQ a s))) s10) = ret (.nx (E (some (row (lookQ rs l))) (some (row (lookQ rs (prodQ a s)))) s10)) := by
    subst hE
    unfold r7
    by_cases h : (j : Int) = 5 <;> simp [h, pm, c8]
  have h8 : r8 call (E (some (row (lookQ rs l))) (some (row (lookQ rs (prodQ a s)))) s10) = ret (.nx (E (some (row (lookQ rs l))) (some (row (lookQ rs (prodQ a s)))) s10)) := by
    subst hE
    unfold r8
    simp [c5, c9, c10, c4, c11]
  have h9 : r9 call (E (some (row (lookQ rs l))) (some (row (lookQ rs (prodQ a s)))) s10) = ret (.nx (E (some (row (lookQ rs l))) (some (row (lookQ rs (prodQ a s)))) (some (row (addQ l o))))) := by
    subst hE
    have e := comp_plus H.plus (own := [11, 12]) (A := eVar 4) (B := eVar 5) (env := [some (.ref n), some (.int (j : Nat)), some (.int (w : Nat)), some (eyeD rs), some (row l), some (row o), some (row a), some (row s), some (row (lookQ rs l)), some (row (lookQ rs (prodQ a s))), s10, s11, s12]) (i := 11) (j := 12) (a := l) (b := o) rfl rfl (by decide) (by simp [wipeE]) (by simp [wipeE]) lS oS (by decide) (by rw [l1]; exact wl)
    unfold r9
    simp only [r_sAs, r_eCB, r_aCons, r_aNil, e, bnd_ret, r_bnd_bnd, r_tupL, tup_rts, r_gNm]
    rfl
  have h10 : r10 call (E (some (row (lookQ rs l))) (some (row (lookQ rs (prodQ a s)))) (some (row (addQ l o)))) = ret (.nx (E (some (row (lookQ rs l))) (some (row (lookQ rs (prodQ a s)))) (some (row (addQ l o))))) := by
    subst hE
    have e := comp_plus H.plus (own := [11, 12]) (A := eVar 8) (B := eCB (call 32) (aCons (eVar 3) (aCons (eVar 5) aNil))) (env := [some (.ref n), some (.int (j : Nat)), some (.int (w : Nat)), some (eyeD rs), some (row l), some (row o), some (row a), some (row s), some (row (lookQ rs l)), some (row (lookQ rs (prodQ a s))), some (row (addQ l o)), s11, s12]) (i := 11) (j := 12) (a := lookQ rs l) (b := lookQ rs o) rfl (by simp [c13]) (by decide) (by simp [wipeE]) (by simp [wipeE]) k1 k2 (by decide) (kl l)
    rw [← look_add rl l1 o1] at e
    unfold r10
    simp only [r_sIf, r_fNot, r_tTr, r_eCB, r_aCons, r_aNil, bnd_ret, r_bnd_bnd, r_eVar, List.getElem?_cons_zero, List.getElem?_cons_succ, c12, c14, tru_bl, Bool.not_true, Bool.false_eq_true, if_false, r_sNx] at e ⊢
    rw [e]
    simp only [bnd_ret, r_bnd_bnd, r_tupL, tup_rts, c14, tru_bl, Bool.not_true, Bool.false_eq_true, if_false]
  have h11 : r11 call (E (some (row (lookQ rs l))) (some (row (lookQ rs (prodQ a s)))) (some (row (addQ l o)))) = ret (.nx (E (some (row (lookQ rs l))) (some (row (lookQ rs (prodQ a s)))) (some (row (addQ l o))))) := by
    subst hE
    unfold r11
    simp [one_rt, zero_rt, m1, m2, m3, m4, c15, c16, c17, c18]
  refine ⟨E (some (row (lookQ rs l))) (some (row (lookQ rs (prodQ a s)))) (some (row (addQ l o))), g5, ?_, by subst hE; exact ⟨_, _, _, _, _, _, _, _, _, _, _, _, rfl⟩, p5.mono (by omega), hng.same p5 q, q⟩
  rw [r_gNm, bnd_ret]
  unfold rB
  refine seq_at (env' := [some (.ref n), some (.int (j : Nat)), some (.int (w : Nat)), s3, s4, s5, s6, s7, s8, s9, s10, s11, s12]) (g' := g) ?_ (seq_at (env' := [some (.ref n), some (.int (j : Nat)), some (.int (w : Nat)), some (eyeD rs), some (row l), some (row o), s6, s7, s8, s9, s10, s11, s12]) (g' := g3) ?_ (seq_at (env' := E s8 s9 s10) (g' := g5) ?_ ?_))
  · unfold r0
    simp [hwi]
  · unfold r1
    have e1 : call 47 [.ref n, .int (w : Nat), .int 4] g = .ok (eyeD rs) g1 := e1
    simp [bnd, e1, e2, e3]
  · subst hE
    unfold r2
    simp [bnd, e4, e5]
  · exact congrFun ((seq_ret h3).trans ((seq_ret h4).trans ((seq_ret h5).trans ((seq_ret h6).trans ((seq_ret h7).trans ((seq_ret h8).trans ((seq_ret h9).trans ((seq_ret h10).trans ((seq_ret h11).trans rfl))))))))) g5
theorem right_ok {call : Nat → List D → M D} (H : Hc call) {n : Nat} {g : G} (hg : Pool n 0 g) (hng : NoG g) : ∃ g', runB (b__law_right call) [some (.ref n), none, none, none, none, none, none, none, none, none, none, none, none] g = .ok (.bl true) g' ∧ NoG g' := by
  have hr : rng1D [.int 20] = ret (free ((List.range 20).map fun k => D.int (k : Nat))) := rng1_ok (w := 20) (by decide)
  obtain ⟨env4, g4, e4, ⟨t1, t2, t3, t4, t5, t6, t7, t8, t9, t10, t11, t12, rfl⟩, p4, n4⟩ := forL_st (ok := fun _ => True) (gf := gNm 1) (body := rB call) (fun _ => trivial) (Inv := fun j env g => (∃ t1 t2 t3 t4 t5 t6 t7 t8 t9 t10 t11 t12, env = [some (.ref n), t1, t2, t3, t4, t5, t6, t7, t8, t9, t10, t11, t12]) ∧ Pool n (200 * j) g ∧ NoG g) (its := (List.range 20).map fun j => D.int (j : Nat)) (env := [some (.ref n), none, none, none, none, none, none, none, none, none, none, none, none]) (j := 0) (g := g) (fun i d env g' hd hi => by
      obtain ⟨⟨t1, t2, t3, t4, t5, t6, t7, t8, t9, t10, t11, t12, rfl⟩, p, ng⟩ := hi
      have hi4 : i < 20 := by
        have := (List.getElem?_eq_some_iff.mp hd).1
        rw [List.length_map, List.length_range] at this
        exact this
      have hd' : d = .int (i : Nat) := by
        rw [List.getElem?_map, List.getElem?_range hi4] at hd
        cases hd
        rfl
      subst hd'
      obtain ⟨env', g'', x1, x2, x3, x4, x5⟩ := lap_ok H hi4 (b := 200 * (0 + i)) (by omega) p ng (s1 := t1) (s2 := t2) (s3 := t3) (s4 := t4) (s5 := t5) (s6 := t6) (s7 := t7) (s8 := t8) (s9 := t9) (s10 := t10) (s11 := t11) (s12 := t12)
      exact ⟨env', g'', x1, x2, x3.mono (by omega), x4⟩) ⟨⟨_, _, _, _, _, _, _, _, _, _, _, _, rfl⟩, hg, hng⟩
  refine ⟨g4, ?_, n4⟩
  rw [right_eq, r_runB]
  refine bnd_at (x := .rt (.bl true)) (g' := g4) ?_ rfl
  refine seq_at (env' := [some (.ref n), t1, t2, t3, t4, t5, t6, t7, t8, t9, t10, t11, t12]) (g' := g4) ?_ rfl
  unfold sFor
  refine bnd_at (x := free ((List.range 20).map fun k => D.int (k : Nat))) (g' := g) ?_ e4
  rw [r_wRng1, r_aCons, r_eC, bnd_ret, r_aNil, bnd_ret, bnd_ret, hr]
  rfl
theorem NoG.add {g : G} (h : NoG g) (a b c : Int) : NoG (g ++ [.lst [.int a, .int b, .int c]]) := fun i x hi k => by
  by_cases e : i < g.length
  · rw [List.getElem?_append_left e] at hi
    exact h i x hi k
  · rw [List.getElem?_append_right (by omega)] at hi
    cases hh : i - g.length with
    | zero =>
      rw [hh] at hi
      cases hi
      exact cellNo_pool ..
    | succ t =>
      rw [hh] at hi
      cases hi
theorem main : ∀ ns : List Int, ns.length ≤ 63 → (∀ k ∈ ns, Builtin.Int.intBits k ≤ 1048576) → ∃ g', callT (tab (tT' top LS) gl kw) 30 52 [.scr ns] [] = .ok (.bl true) g' := fun ns _ _ => by
  obtain ⟨m, hm⟩ : ∃ m : Int, m = (if (if (2 : Int) < ns.length then 2 else (ns.length : Int)) > 1 then (if (2 : Int) < ns.length then 2 else (ns.length : Int)) else 1) := ⟨_, rfl⟩
  have hm0 : 1 ≤ m ∧ m ≤ 2 := by
    rw [hm]
    split <;> split <;> omega
  obtain ⟨w, hw⟩ : ∃ w : Nat, m = w := ⟨m.toNat, by omega⟩
  have hw2 : w ≤ 2 := by omega
  have ha : (wRng1 (aCons (eCB (bi max2D) (aCons (eC (.int 1)) (aCons (eCB (bi min2D) (aCons (eCB (un lenD) (aCons (eVar 0) aNil)) (aCons (eC (.int 2)) aNil))) aNil))) aNil)) [some (.scr ns), none] = ret (free ((List.range w).map fun k => D.int (k : Nat))) := by
    have h1 : bi min2D [.int ns.length, .int 2] = ret (.int (if (2 : Int) < ns.length then 2 else (ns.length : Int))) := rfl
    have h2 : bi max2D [.int 1, .int (if (2 : Int) < ns.length then 2 else (ns.length : Int))] = ret (.int m) := by
      rw [hm]
      rfl
    have h3 := rng1_ok (w := w) (Nat.lt_of_le_of_lt hw2 (by decide))
    rw [← hw] at h3
    simp only [r_wRng1, r_aCons, r_eCB, r_eC, r_aNil, r_eVar, List.getElem?_cons_zero, bnd_ret, r_bnd_bnd, len_scr, h1, h2, h3]
  have hwl : w ≤ lim := Nat.le_trans hw2 (by decide)
  obtain ⟨g', e1, _⟩ := eComp_st (own := [1]) (gf := gNm 1) (ef := eCB (cal 29 51) (aCons (eCB (cal 29 35) (aCons (eVar 0) (aCons (eVar 1) aNil))) aNil)) (Inv := NoG) (y := .bl true) (g := []) ha (fun _ => trivial) (by show ((List.range w).map fun k => D.int (k : Nat)).length ≤ lim; rw [List.length_map, List.length_range]; exact hwl) (fun d hd g hg => by
      obtain ⟨i, hi, rfl⟩ := List.mem_map.mp hd
      have hi2 : i ≤ 2 := by
        have := List.mem_range.mp hi
        omega
      obtain ⟨p0, p1, a0, a1, a2, ep⟩ := pool_ok (call := cal 28) (c1 := 5947) (c2 := 595) (c3 := 35709) (c4 := 9071) (c5 := 54233) (c6 := 2147483587) (c7 := 2147483647) (c8 := 2147483587) (c9 := 29635) (c10 := 2147483647) ⟨by decide, by decide⟩ ⟨by decide, by decide⟩ ⟨by decide, by decide⟩ ⟨by decide, by decide⟩ ⟨by decide, by decide⟩ ⟨by decide, by decide⟩ ⟨by decide, by decide⟩ ⟨by decide, by decide⟩ (by decide) (by decide) (by decide) (by decide) (ns := ns) (l := i) hi2 g
      have e35 : cal 29 35 [.scr ns, .int (i : Nat)] g = .ok (.ref g.length) (g ++ [.lst [.int p0, .int p1, .int 0]]) := (congrFun (c__law_pool 28 (.scr ns) (.int (i : Nat))) g).trans ep
      have hp : Pool g.length 0 (g ++ [.lst [.int p0, .int p1, .int 0]]) := ⟨p0, p1, 0, by rw [List.getElem?_append_right (Nat.le_refl _), Nat.sub_self]; rfl, a0, a1, a2, by decide, by decide⟩
      obtain ⟨g2, er, ng⟩ := right_ok (hc 16) hp (NoG.add hg _ _ _)
      have e51 : cal 29 51 [.ref g.length] (g ++ [.lst [.int p0, .int p1, .int 0]]) = .ok (.bl true) g2 := (congrFun (c__law_right 28 (.ref g.length)) _).trans er
      refine ⟨g2, ?_, ng⟩
      simp [wipeE, bnd, e35, e51]) (fun i c hi => by simp at hi)
  have hlen : (free ((List.range w).map fun k => D.int (k : Nat))).its.length = w := by
    show ((List.range w).map fun k => D.int (k : Nat)).length = w
    rw [List.length_map, List.length_range]
  rw [hlen] at e1
  have hall : un allD [.lst (List.replicate w (.bl true))] = ret (.bl true) := by
    have := all_map (fun _ : Nat => true) (List.range w)
    simp only [List.map_const', List.length_range] at this
    have h2 : ((List.range w).all fun _ => true) = true := by simp
    rw [this, h2]
  refine ⟨g', (congrFun (c_law 29 (.scr ns)) []).trans ?_⟩
  unfold b_law
  rw [r_runB]
  refine bnd_at (x := .rt (.bl true)) (g' := g') ?_ rfl
  rw [r_sSeq]
  refine bnd_at (x := .rt (.bl true)) (g' := g') ?_ rfl
  rw [r_sRt]
  refine bnd_at (x := .bl true) (g' := g') ?_ rfl
  rw [r_eCB, r_aCons]
  refine bnd_at (x := [.lst (List.replicate w (.bl true))]) (g' := g') ?_ (by rw [hall]; rfl)
  exact bnd_at e1 rfl
end K03
set_option Elab.async false
set_option linter.all false
set_option maxRecDepth 100000
set_option maxHeartbeats 0
namespace K03
open PySem PySem.Spec PyProof.Rows L3
def loose : List PySem.Str := (["gcd", "LookError", "InvalidLight", "InvalidLamp", "InvalidSurface", "InvalidEye", "ZERO", "ratio", "plus", "times", "sum_of", "dot", "products", "are_zero", "is_whole", "is_tuple_up_to", "is_tuple_of", "are_all", "is_ratio", "is_content"] : List PySem.Str) ++ (["is_share", "MOST_BANDS", "MOST_ROWS", "is_light_of", "is_lamp_of", "is_surface_of", "is_eye_of", "width_in", "is_any_light", "is_any_lamp", "is_any_eye", "width_of", "check_eye", "check_light", "check_any_lamp", "check_lamp", "check_surface", "look_by", "lit_by", "look_under_by"] : List PySem.Str) ++ (["is_light", "look_of", "lit", "look_under", "_law_pool", "_law_below", "_law_one", "_law_ratio", "_law_plus", "_law_times", "_law_dot", "_law_content", "_law_share", "_law_light", "_law_lamp", "_law_surface", "_law_eye", "_law_look", "_law_lit", "_law_same"] : List PySem.Str) ++ (["_law_right"] : List PySem.Str)
abbrev R : PySem.W.OpenRow := PySem.W.OpenLaw.row PySem.Challenge.rw_lamplooks_k03_whole_looks_by_own_fractio
abbrev hk : PySem.W.Hook := hookE 4 (LS.map (Ds.he top)) fun K => gl.all (gkB LS K)
def ob (s : PySem.W.SharedT) : He.AlD := obsEG 4 (LS.map (Ds.he top)) (fun K => gl.all (gkB LS K)) (HandSHeadRun.getT s)
theorem ob_eq (s : PySem.W.SharedT) : ob s = hk.obs s.abs := obsEG_eq (HandSHeadRun.getT_eq s)
theorem run (w : World) : HandSHeadRun.RunEqI R (PySem.W.view R.prog [0, 68]) hk ob 20000 loose w := by
  delta HandSHeadRun.RunEqI; kernel_rfl
end K03
set_option Elab.async false
set_option linter.all false
set_option maxRecDepth 100000
set_option maxHeartbeats 0
namespace K03
open PySem PySem.Spec PyProof.Rows L3 L2
theorem lookup_memP : ∀ {l : List ((Nat × List PySem.Str) × List Nat)} {x : Nat × List PySem.Str} {k : List Nat}, l.lookup x = some k → (x, k) ∈ l
  | [], _, _, h => by cases h
  | (y, j) :: l, x, k, h => by
    rw [List.lookup_cons] at h
    cases q : x == y with
    | true =>
      rw [q] at h
      cases h
      rw [eq_of_beq q]
      exact List.mem_cons_self ..
    | false =>
      rw [q] at h
      exact List.mem_cons_of_mem _ (lookup_memP h)
def KwOk (p : (Nat × List PySem.Str) × List Nat) : Prop := ∀ d, LS[p.1.1]? = some d → d.ps ≠ [] ∧ ∀ (kV doc pmv : Value) (an : Option Addr) (cdv ct : Value) (ws : List Value), ws.length = p.2.length → bindArgs (PySem.W.fnOf d.name d.name (defArgs (top d.ix)) (defBody (top d.ix)) (defScope (top d.ix)) .none kV doc pmv an cdv ct) ⟨[], p.1.2.zip ws⟩ = pure (d.ps.zip (p.2.filterMap fun j => ws[j]?))
theorem kw0 : KwOk ((34, ["surface", "lamp", "eye"]), [2, 1, 0]) := fun d h => by
  have e : some s_look_under = some d := h
  cases e
  refine ⟨by decide, fun kV doc pmv an cdv ct ws hl => ?_⟩
  match ws, hl with
  | [a, b, c], _ => rfl
theorem kw1 : KwOk ((33, ["surface", "lamp"]), [1, 0]) := fun d h => by
  have e : some s_lit = some d := h
  cases e
  refine ⟨by decide, fun kV doc pmv an cdv ct ws hl => ?_⟩
  match ws, hl with
  | [a, b], _ => rfl
theorem kw2 : KwOk ((32, ["light", "eye"]), [1, 0]) := fun d h => by
  have e : some s_look_of = some d := h
  cases e
  refine ⟨by decide, fun kV doc pmv an cdv ct ws hl => ?_⟩
  match ws, hl with
  | [a, b], _ => rfl
theorem kw_all : ∀ p ∈ kw, KwOk p := fun p h => by
  unfold kw at h
  rcases List.mem_cons.mp h with h | h
  · rw [h]
    exact kw0
  rcases List.mem_cons.mp h with h | h
  · rw [h]
    exact kw1
  rcases List.mem_cons.mp h with h | h
  · rw [h]
    exact kw2
  cases h
theorem kw_ok : ∀ i ks perm, kw.lookup (i, ks) = some perm → ∀ d, LS[i]? = some d → d.ps ≠ [] ∧ ∀ (kV doc pmv : Value) (an : Option Addr) (cdv ct : Value) (ws : List Value), ws.length = perm.length → bindArgs (PySem.W.fnOf d.name d.name (defArgs (top d.ix)) (defBody (top d.ix)) (defScope (top d.ix)) .none kV doc pmv an cdv ct) ⟨[], ks.zip ws⟩ = pure (d.ps.zip (perm.filterMap fun j => ws[j]?)) := fun i ks perm h => kw_all _ (lookup_memP h)
end K03
open PySem PySem.W PySem.Calls PyProof.Rows
theorem PySem.Challenge.cw_lamplooks_k03_whole_looks_by_own_fractio_holds : PySem.Challenge.rw_lamplooks_k03_whole_looks_by_own_fractio.Holds := by
  w_on; o_law
  refine HandSHeadRun.head_imp (r := OpenLaw.row PySem.Challenge.rw_lamplooks_k03_whole_looks_by_own_fractio) (q := view (OpenLaw.row PySem.Challenge.rw_lamplooks_k03_whole_looks_by_own_fractio).prog [0, 68]) (H := K03.hk) (ob := K03.ob) (M := 20000) (loose := K03.loose) (d := HandSHeadRun.topDef (OpenLaw.row PySem.Challenge.rw_lamplooks_k03_whole_looks_by_own_fractio).prog 68) (kwd := []) K03.ob_eq
    K03.run (by kernel_rfl) (by kernel_rfl) (by kernel_rfl) (by rfl) (by first | assumption | decide +kernel) (by decide +kernel) ⟨rfl, rfl, rfl, rfl, rfl, by decide +kernel⟩ ?hw ?hc
  case hw => w_witness2
  case hc => exact L3.walk_law (n := 63) (k := 30) (i := 52) (x := "script") (dl := K03.s_law) rfl (by decide) (by kernel_rfl) ⟨rfl, by decide, by decide⟩ rfl rfl (by kernel_rfl) (by kernel_rfl) (by kernel_rfl) K03.kw_ok K03.main
