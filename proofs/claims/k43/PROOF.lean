import PyProof.Rows.All
import Wide.All
import OpenK.AllK
import Wide.FinOn
import HandS.ForMost
import HandS.ForExc
import HandS.Exc
import HandS.ExcOwn
import HandS.CallSlots
import HandS.IsInst
import HandS.Conv
import PyProof.MaxThree
import HandS.TupAny
import HandS.Flow
import HandS.StrMore
import HandS.Replace
import HandS.RevRange
import HandS.Iter
import HandS.Words
import HandS.Defaults
import HandS.HeadEnd
import HandS.HeadHook2
import HandS.HeadHook4
import HandS.Head2
import PySem.Challenge.RW_pagestead_k43_words_of_texts
import PyProof.StrLawsIn
import PyProof.Rows.StrCase
set_option Elab.async false
set_option maxRecDepth 100000
set_option linter.unusedVariables false
/-! PgCore: pure values, the ghost state, how they lie over the hand layer's heap. -/
namespace PG
open PySem L2

/-- pure values: lists here never change (lst), or are borrowed from a slot that owns them (bor); ref: a cell of the own heap -/
inductive PV where
  | non | bl (b : Bool) | int (i : Int) | str (s : Str)
  | tup (xs : List PV) | lst (xs : List PV) | bor (xs : List PV)
  | dct (kvs : List (Key × PV)) | bod (kvs : List (Key × PV))
  | ref (n : Nat)
  | scr (xs : List PV)
  | ty (n : String)
  deriving Inhabited

/-- the ghost: cells' addresses, and all addresses that may still change -/
structure G where
  φ : List Addr
  M : Addr → Prop

/-- a tuple: a tracked one, or one of the written part -/
def TupAt (K : PySem.W.Frag) (H : Hp) (a : Addr) (vs : List V) : Prop :=
  H a = some (.tup vs) ∨ ∃ (o : Obj) (its : Array Value) (n : Nat), K.lookup a = some o ∧ o.cls = .type "tuple" ∧ o.data = .seq its n ∧ its.size ≤ sizeLine ∧ Vals vs its.toList
theorem TupAt.sq {K : PySem.W.Frag} {H : Hp} {a : Addr} {vs : List V} (r : TupAt K H a vs) : SqT K H a vs := by
  rcases r with r | r
  · exact .inl (.inl r)
  · exact .inr r

/-- a list that nobody writes: the script (held still, or part of what is written) -/
def ScrAt (K : PySem.W.Frag) (g : G) (H : Hp) (a : Addr) (vs : List V) : Prop :=
  (∃ o, H a = some (.frz o (.lst vs)) ∧ ¬ g.M a) ∨ ∃ (o : Obj) (its : Array Value) (n : Nat), K.lookup a = some o ∧ o.cls = .type "list" ∧ o.dict = none ∧ o.data = .seq its n ∧ its.size ≤ sizeLine ∧ Vals vs its.toList
theorem ScrAt.sql {K : PySem.W.Frag} {g : G} {H : Hp} {a : Addr} {vs : List V} (r : ScrAt K g H a vs) : SqL K H a vs := by
  rcases r with ⟨o, h, _⟩ | r
  · exact .inl (.inr ⟨o, h⟩)
  · exact .inr r
mutual
def VR (K : PySem.W.Frag) (g : G) (H : Hp) : PV → V → Prop
  | .non, v => v = .non
  | .bl b, v => v = .bl b
  | .int i, v => v = .int i
  | .str s, v => v = .str s ∧ s.length ≤ sizeLine
  | .tup xs, v => ∃ a vs, v = .ref a ∧ TupAt K H a vs ∧ VRs K g H xs vs
  | .lst xs, v => ∃ a vs, v = .ref a ∧ H a = some (.lst vs) ∧ ¬ g.M a ∧ VRs K g H xs vs
  | .bor _, _ => False
  | .dct kvs, v => ∃ a vs, v = .ref a ∧ H a = some (.dK vs) ∧ ¬ g.M a ∧ VRk K g H kvs vs
  | .bod _, _ => False
  | .ref n, v => ∃ a, g.φ[n]? = some a ∧ v = .ref a
  | .scr xs, v => ∃ a vs, v = .ref a ∧ ScrAt K g H a vs ∧ VRs K g H xs vs
  | .ty n, v => v = .ty n
def VRs (K : PySem.W.Frag) (g : G) (H : Hp) : List PV → List V → Prop
  | [], vs => vs = []
  | x :: xs, vs => ∃ y ys, vs = y :: ys ∧ VR K g H x y ∧ VRs K g H xs ys
def VRk (K : PySem.W.Frag) (g : G) (H : Hp) : List (Key × PV) → List (Key × V) → Prop
  | [], vs => vs = []
  | x :: xs, vs => ∃ y ys, vs = y :: ys ∧ VRp K g H x y ∧ VRk K g H xs ys
def VRp (K : PySem.W.Frag) (g : G) (H : Hp) : Key × PV → Key × V → Prop
  | (k, x), p => p.1 = k ∧ VR K g H x p.2
end

/-- one step of the world, as far as it is seen from here -/
structure Ext (g : G) (H : Hp) (g' : G) (H' : Hp) : Prop where
  pre : ∃ r, g'.φ = g.φ ++ r
  newφ : ∀ a, a ∈ g'.φ → a ∈ g.φ ∨ H a = none
  newM : ∀ a, g'.M a → g.M a ∨ H a = none
  oldM : ∀ a, g.M a → H a ≠ none → g'.M a
  keep : ∀ a o, H a = some o → a ∉ g.φ → H' a = some o
  stays : ∀ a, a ∈ g.φ → H a ≠ none → H' a ≠ none

theorem Ext.refl (g : G) (H : Hp) : Ext g H g H := ⟨⟨[], by simp⟩, fun _ h => .inl h, fun _ h => .inl h, fun _ h _ => h, fun _ _ h _ => h, fun _ _ h => h⟩
theorem Ext.trans {g g1 g2 : G} {H H1 H2 : Hp} (a : Ext g H g1 H1) (b : Ext g1 H1 g2 H2) : Ext g H g2 H2 := by
  have back : ∀ x, H1 x = none → H x = none := by
    intro x hx
    cases q : H x with
    | none => rfl
    | some o =>
      by_cases hm : x ∈ g.φ
      · exact absurd hx (a.stays x hm (by rw [q]; simp))
      · rw [a.keep x o q hm] at hx; cases hx
  refine ⟨?_, ?_, ?_, ?_, ?_, ?_⟩
  · obtain ⟨r, e⟩ := a.pre; obtain ⟨r', e'⟩ := b.pre
    exact ⟨r ++ r', by rw [e', e, List.append_assoc]⟩
  · intro x hx
    rcases b.newφ x hx with h | h
    · exact a.newφ x h
    · exact .inr (back x h)
  · intro x hx
    rcases b.newM x hx with h | h
    · exact a.newM x h
    · exact .inr (back x h)
  · intro x h hx
    refine b.oldM x (a.oldM x h hx) ?_
    by_cases hm : x ∈ g.φ
    · exact a.stays x hm hx
    · cases q : H x with
      | none => exact absurd q hx
      | some o => rw [a.keep x o q hm]; simp
  · intro x o hx hn
    refine b.keep x o (a.keep x o hx hn) fun hm => ?_
    rcases a.newφ x hm with h | h
    · exact hn h
    · rw [h] at hx; cases hx
  · intro x hm hx
    refine b.stays x ?_ (a.stays x hm hx)
    obtain ⟨r, e⟩ := a.pre
    rw [e]; exact List.mem_append_left _ hm

/-- a cell's content -/
inductive Ob where
  | lst (xs : List PV)
  | dct (kvs : List (Key × PV))
  | ins (C : Str) (fs : List (Str × PV))
  deriving Inhabited

abbrev Hm := List Ob

def VRf (K : PySem.W.Frag) (g : G) (H : Hp) : List (Str × PV) → List (Str × V) → Prop
  | [], vs => vs = []
  | x :: xs, vs => ∃ y ys, vs = y :: ys ∧ x.1 = y.1 ∧ VR K g H x.2 y.2 ∧ VRf K g H xs ys

/-- where the classes stand -/
abbrev CA := Str → Addr

def OR (K : PySem.W.Frag) (ca : CA) (g : G) (H : Hp) (a : Addr) : Ob → Prop
  | .lst xs => ∃ vs, H a = some (.lst vs) ∧ VRs K g H xs vs
  | .dct kvs => ∃ vs, H a = some (.dK vs) ∧ VRk K g H kvs vs
  | .ins C fs => ∃ dx vs, H a = some (.ins (ca C) dx vs) ∧ VRf K g H fs vs

structure SR (K : PySem.W.Frag) (ca : CA) (g : G) (h : Hm) (H : Hp) : Prop where
  len : g.φ.length = h.length
  nd : g.φ.Nodup
  mem : ∀ a, a ∈ g.φ → g.M a
  obj : ∀ (i : Nat) (a : Addr) (o : Ob), g.φ[i]? = some a → h[i]? = some o → OR K ca g H a o

theorem OR.some {K : PySem.W.Frag} {ca : CA} {g : G} {H : Hp} {a : Addr} {o : Ob} (r : OR K ca g H a o) : ∃ u, H a = some u ∧ ∀ xs, u ≠ .tup xs := by
  cases o with
  | lst xs => obtain ⟨vs, h, _⟩ := r; exact ⟨_, h, fun _ q => by cases q⟩
  | dct xs => obtain ⟨vs, h, _⟩ := r; exact ⟨_, h, fun _ q => by cases q⟩
  | ins C fs => obtain ⟨dx, vs, h, _⟩ := r; exact ⟨_, h, fun _ q => by cases q⟩

theorem SR.at {K : PySem.W.Frag} {ca : CA} {g : G} {h : Hm} {H : Hp} (s : SR K ca g h H) {a : Addr} (ha : a ∈ g.φ) : ∃ u, H a = some u ∧ ∀ xs, u ≠ .tup xs := by
  obtain ⟨i, hi, e⟩ := List.getElem_of_mem ha
  have h2 : i < h.length := by rw [← s.len]; exact hi
  exact (s.obj i a h[i] (by rw [List.getElem?_eq_getElem hi, e]) (List.getElem?_eq_getElem h2)).some
theorem SR.free {K : PySem.W.Frag} {ca : CA} {g : G} {h : Hm} {H : Hp} (s : SR K ca g h H) {a : Addr} (ha : H a = none) : a ∉ g.φ := fun hm => by
  obtain ⟨u, q, _⟩ := s.at hm
  rw [ha] at q; cases q


/-- what the step asks of the world ahead of it -/
structure Sane (g : G) (H : Hp) : Prop where
  mem : ∀ a, a ∈ g.φ → g.M a
  notup : ∀ a, a ∈ g.φ → ∀ xs, H a ≠ some (.tup xs)
theorem SR.sane {K : PySem.W.Frag} {ca : CA} {g : G} {h : Hm} {H : Hp} (s : SR K ca g h H) : Sane g H :=
  ⟨s.mem, fun a ha xs q => by obtain ⟨u, e, n⟩ := s.at ha; rw [q] at e; cases e; exact n xs rfl⟩

theorem rd_ext {g g' : G} {H H' : Hp} (e : Ext g H g' H') {a : Addr} {u : HO} (r : Rd H a u) (hn : a ∉ g.φ) : Rd H' a u := by
  rcases r with r | ⟨o, r⟩
  · exact .inl (e.keep a _ r hn)
  · exact .inr ⟨o, e.keep a _ r hn⟩
theorem rd_there {H : Hp} {a : Addr} {u : HO} (r : Rd H a u) : H a ≠ none := by
  rcases r with r | ⟨o, r⟩ <;> rw [r] <;> simp
theorem TupAt.ext {K : PySem.W.Frag} {g g' : G} {H H' : Hp} (s : Sane g H) (e : Ext g H g' H') {a : Addr} {vs : List V} (r : TupAt K H a vs) : TupAt K H' a vs := by
  rcases r with r | r
  · exact .inl (e.keep a _ r fun hm => s.notup a hm _ r)
  · exact .inr r
theorem Ext.notM {g g' : G} {H H' : Hp} (e : Ext g H g' H') {a : Addr} {u : HO} (r : Rd H a u) (hn : ¬ g.M a) : ¬ g'.M a := fun hm => by
  rcases e.newM a hm with h | h
  · exact hn h
  · exact rd_there r h
theorem Ext.φget {g g' : G} {H H' : Hp} (e : Ext g H g' H') {n : Nat} {a : Addr} (r : g.φ[n]? = some a) : g'.φ[n]? = some a := by
  obtain ⟨t, q⟩ := e.pre
  rw [q, List.getElem?_append_left (List.getElem?_eq_some_iff.mp r).1]; exact r

/-- what stays through statements: what may not change has not -/
structure ExtM (g : G) (H : Hp) (g' : G) (H' : Hp) : Prop where
  pre : ∃ r, g'.φ = g.φ ++ r
  newM : ∀ a, g'.M a → g.M a ∨ H a = none
  keep : ∀ a o, H a = some o → ¬ g.M a → H' a = some o
  tups : ∀ a xs, H a = some (.tup xs) → H' a = some (.tup xs)
theorem Ext.m {g g' : G} {H H' : Hp} (s : Sane g H) (e : Ext g H g' H') : ExtM g H g' H' :=
  ⟨e.pre, e.newM, fun a o h hm => e.keep a o h fun q => hm (s.mem a q), fun a xs h => e.keep a _ h fun q => s.notup a q xs h⟩
theorem ExtM.refl (g : G) (H : Hp) : ExtM g H g H := ⟨⟨[], by simp⟩, fun _ h => .inl h, fun _ _ h _ => h, fun _ _ h => h⟩
theorem ExtM.φget {g g' : G} {H H' : Hp} (e : ExtM g H g' H') {n : Nat} {a : Addr} (r : g.φ[n]? = some a) : g'.φ[n]? = some a := by
  obtain ⟨t, q⟩ := e.pre
  rw [q, List.getElem?_append_left (List.getElem?_eq_some_iff.mp r).1]; exact r
theorem ExtM.rd {g g' : G} {H H' : Hp} (e : ExtM g H g' H') {a : Addr} {u : HO} (r : Rd H a u) (hn : ¬ g.M a) : Rd H' a u := by
  rcases r with r | ⟨o, r⟩
  · exact .inl (e.keep a _ r hn)
  · exact .inr ⟨o, e.keep a _ r hn⟩
theorem ExtM.notM {g g' : G} {H H' : Hp} (e : ExtM g H g' H') {a : Addr} {u : HO} (r : Rd H a u) (hn : ¬ g.M a) : ¬ g'.M a := fun hm => by
  rcases e.newM a hm with h | h
  · exact hn h
  · exact rd_there r h
theorem TupAt.extM {K : PySem.W.Frag} {g g' : G} {H H' : Hp} (e : ExtM g H g' H') {a : Addr} {vs : List V} (r : TupAt K H a vs) : TupAt K H' a vs := by
  rcases r with r | r
  · exact .inl (e.tups a _ r)
  · exact .inr r
theorem ScrAt.extM {K : PySem.W.Frag} {g g' : G} {H H' : Hp} (e : ExtM g H g' H') {a : Addr} {vs : List V} (r : ScrAt K g H a vs) : ScrAt K g' H' a vs := by
  rcases r with ⟨o, h, m⟩ | r
  · exact .inl ⟨o, e.keep a _ h m, fun q => (e.newM a q).elim m fun z => (by rw [h] at z; cases z)⟩
  · exact .inr r
mutual
theorem VR.extM {K : PySem.W.Frag} {g g' : G} {H H' : Hp} (e : ExtM g H g' H') : ∀ {x : PV} {v : V}, VR K g H x v → VR K g' H' x v
  | .non, _, r => r
  | .bl _, _, r => r
  | .int _, _, r => r
  | .str _, _, r => r
  | .tup _, _, r => by
    obtain ⟨a, vs, rfl, h, t⟩ := r
    exact ⟨a, vs, rfl, h.extM e, VRs.extM e t⟩
  | .lst _, _, r => by
    obtain ⟨a, vs, rfl, h, m, t⟩ := r
    exact ⟨a, vs, rfl, e.keep a _ h m, e.notM (.inl h) m, VRs.extM e t⟩
  | .bor _, _, r => r
  | .dct _, _, r => by
    obtain ⟨a, vs, rfl, h, m, t⟩ := r
    exact ⟨a, vs, rfl, e.keep a _ h m, e.notM (.inl h) m, VRk.extM e t⟩
  | .bod _, _, r => r
  | .ref _, _, r => by
    obtain ⟨a, h, rfl⟩ := r
    exact ⟨a, e.φget h, rfl⟩
  | .scr _, _, r => by
    obtain ⟨a, vs, rfl, h, t⟩ := r
    exact ⟨a, vs, rfl, h.extM e, VRs.extM e t⟩
  | .ty _, _, r => r
theorem VRs.extM {K : PySem.W.Frag} {g g' : G} {H H' : Hp} (e : ExtM g H g' H') : ∀ {x : List PV} {v : List V}, VRs K g H x v → VRs K g' H' x v
  | [], _, r => r
  | _ :: _, _, r => by
    obtain ⟨y, ys, rfl, h, t⟩ := r
    exact ⟨y, ys, rfl, VR.extM e h, VRs.extM e t⟩
theorem VRk.extM {K : PySem.W.Frag} {g g' : G} {H H' : Hp} (e : ExtM g H g' H') : ∀ {x : List (Key × PV)} {v : List (Key × V)}, VRk K g H x v → VRk K g' H' x v
  | [], _, r => r
  | _ :: _, _, r => by
    obtain ⟨y, ys, rfl, h, t⟩ := r
    exact ⟨y, ys, rfl, VRp.extM e h, VRk.extM e t⟩
theorem VRp.extM {K : PySem.W.Frag} {g g' : G} {H H' : Hp} (e : ExtM g H g' H') : ∀ {x : Key × PV} {v : Key × V}, VRp K g H x v → VRp K g' H' x v
  | (_, _), (_, _), r => ⟨r.1, VR.extM e r.2⟩
end
theorem VR.ext {K : PySem.W.Frag} {g g' : G} {H H' : Hp} (s : Sane g H) (e : Ext g H g' H') {x : PV} {v : V} (r : VR K g H x v) : VR K g' H' x v := r.extM (e.m s)
theorem VRs.ext {K : PySem.W.Frag} {g g' : G} {H H' : Hp} (s : Sane g H) (e : Ext g H g' H') {x : List PV} {v : List V} (r : VRs K g H x v) : VRs K g' H' x v := r.extM (e.m s)
theorem VRk.ext {K : PySem.W.Frag} {g g' : G} {H H' : Hp} (s : Sane g H) (e : Ext g H g' H') {x : List (Key × PV)} {v : List (Key × V)} (r : VRk K g H x v) : VRk K g' H' x v := r.extM (e.m s)
theorem VRf.extM {K : PySem.W.Frag} {g g' : G} {H H' : Hp} (e : ExtM g H g' H') : ∀ {x : List (Str × PV)} {v : List (Str × V)}, VRf K g H x v → VRf K g' H' x v
  | [], _, r => r
  | _ :: _, _, r => by
    obtain ⟨y, ys, rfl, h1, h, t⟩ := r
    exact ⟨y, ys, rfl, h1, h.extM e, VRf.extM e t⟩
theorem OR.extM {K : PySem.W.Frag} {ca : CA} {g g' : G} {H H' : Hp} (e : ExtM g H g' H') {a : Addr} {o : Ob} (hs : H' a = H a) (r : OR K ca g H a o) : OR K ca g' H' a o := by
  cases o with
  | lst xs => obtain ⟨vs, h, t⟩ := r; exact ⟨vs, hs.trans h, t.extM e⟩
  | dct xs => obtain ⟨vs, h, t⟩ := r; exact ⟨vs, hs.trans h, t.extM e⟩
  | ins C fs => obtain ⟨dx, vs, h, t⟩ := r; exact ⟨dx, vs, hs.trans h, t.extM e⟩
/-- the cells stay as they are -/
theorem SR.extM {K : PySem.W.Frag} {ca : CA} {g g' : G} {h : Hm} {H H' : Hp} (s : SR K ca g h H) (e : ExtM g H g' H') (hφ : g'.φ = g.φ) (hm : ∀ a, a ∈ g.φ → g'.M a) (hs : ∀ a, a ∈ g.φ → H' a = H a) : SR K ca g' h H' :=
  ⟨by rw [hφ]; exact s.len, by rw [hφ]; exact s.nd, by rw [hφ]; exact hm, fun i a o h1 h2 => by
    rw [hφ] at h1
    exact (s.obj i a o h1 h2).extM e (hs a (List.mem_of_getElem? h1))⟩

/-! ### something new is laid -/
theorem Ext.laid {g : G} {H : Hp} {p : Addr} {o : HO} (M' : Addr → Prop) (hp : H p = none) (hn : ∀ a, M' a → g.M a ∨ a = p) (ho : ∀ a, g.M a → a ≠ p → M' a) : Ext g H ⟨g.φ, M'⟩ (upd H p o) := by
  have ne : ∀ a, H a ≠ none → a ≠ p := fun a h q => h (q ▸ hp)
  refine ⟨⟨[], by simp⟩, fun _ h => .inl h, fun a h => ?_, fun a h hx => ho a h (ne a hx), fun a u h _ => ?_, fun a _ h => ?_⟩
  · rcases hn a h with q | q
    · exact .inl q
    · exact .inr (q ▸ hp)
  · rw [upd_ne (ne a (by rw [h]; simp))]; exact h
  · rw [upd_ne (ne a h)]; exact h
theorem SR.laid {K : PySem.W.Frag} {ca : CA} {g : G} {h : Hm} {H : Hp} {p : Addr} {o : HO} {M' : Addr → Prop} (s : SR K ca g h H) (hp : H p = none) (hn : ∀ a, M' a → g.M a ∨ a = p) (ho : ∀ a, g.M a → a ≠ p → M' a) : SR K ca ⟨g.φ, M'⟩ h (upd H p o) := by
  have ne : ∀ a, a ∈ g.φ → a ≠ p := fun a h q => s.free hp (q ▸ h)
  exact s.extM ((Ext.laid M' hp hn ho).m s.sane) rfl (fun a ha => ho a (s.mem a ha) (ne a ha)) fun a ha => upd_ne (ne a ha)
/-- never to change -/
abbrev G.fix (g : G) (p : Addr) : G := ⟨g.φ, fun a => g.M a ∧ a ≠ p⟩
/-- to be changed -/
abbrev G.mut (g : G) (p : Addr) : G := ⟨g.φ, fun a => g.M a ∨ a = p⟩
theorem Ext.fix {g : G} {H : Hp} {p : Addr} {o : HO} (hp : H p = none) : Ext g H (g.fix p) (upd H p o) := Ext.laid _ hp (fun _ h => .inl h.1) fun _ h q => ⟨h, q⟩
theorem SR.fix {K : PySem.W.Frag} {ca : CA} {g : G} {h : Hm} {H : Hp} {p : Addr} {o : HO} (s : SR K ca g h H) (hp : H p = none) : SR K ca (g.fix p) h (upd H p o) := s.laid hp (fun _ h => .inl h.1) fun _ h q => ⟨h, q⟩
theorem Ext.mut {g : G} {H : Hp} {p : Addr} {o : HO} (hp : H p = none) : Ext g H (g.mut p) (upd H p o) := Ext.laid _ hp (fun _ h => h) fun _ h _ => .inl h
theorem SR.mut {K : PySem.W.Frag} {ca : CA} {g : G} {h : Hm} {H : Hp} {p : Addr} {o : HO} (s : SR K ca g h H) (hp : H p = none) : SR K ca (g.mut p) h (upd H p o) := s.laid hp (fun _ h => h) fun _ h _ => .inl h

/-! ### values of expressions: borrowed lists too -/
def VT (K : PySem.W.Frag) (g : G) (H : Hp) : PV → V → Prop
  | .bor xs, v => ∃ a vs, v = .ref a ∧ H a = some (.lst vs) ∧ a ∉ g.φ ∧ VRs K g H xs vs
  | .bod kvs, v => ∃ a vs, v = .ref a ∧ H a = some (.dK vs) ∧ a ∉ g.φ ∧ VRk K g H kvs vs
  | x, v => VR K g H x v
theorem VR.vt {K : PySem.W.Frag} {g : G} {H : Hp} : ∀ {x : PV} {v : V}, VR K g H x v → VT K g H x v
  | .non, _, r => r
  | .bl _, _, r => r
  | .int _, _, r => r
  | .str _, _, r => r
  | .tup _, _, r => r
  | .lst _, _, r => r
  | .bor _, _, r => r.elim
  | .dct _, _, r => r
  | .bod _, _, r => r.elim
  | .ref _, _, r => r
  | .scr _, _, r => r
  | .ty _, _, r => r
/-- not borrowed -/
def PV.nb : PV → Bool
  | .bor _ => false
  | .bod _ => false
  | _ => true
theorem VT.vr {K : PySem.W.Frag} {g : G} {H : Hp} : ∀ {x : PV} {v : V}, VT K g H x v → x.nb = true → VR K g H x v
  | .non, _, r, _ => r
  | .bl _, _, r, _ => r
  | .int _, _, r, _ => r
  | .str _, _, r, _ => r
  | .tup _, _, r, _ => r
  | .lst _, _, r, _ => r
  | .dct _, _, r, _ => r
  | .ref _, _, r, _ => r
  | .scr _, _, r, _ => r
  | .ty _, _, r, _ => r
theorem Ext.fresh {g g' : G} {H H' : Hp} (e : Ext g H g' H') {a : Addr} {u : HO} (h : H a = some u) (hn : a ∉ g.φ) : a ∉ g'.φ := fun hm => by
  rcases e.newφ a hm with q | q
  · exact hn q
  · rw [q] at h; cases h
theorem VT.ext {K : PySem.W.Frag} {g g' : G} {H H' : Hp} (s : Sane g H) (e : Ext g H g' H') {x : PV} {v : V} (r : VT K g H x v) : VT K g' H' x v := by
  cases hx : x.nb with
  | true => exact ((r.vr hx).ext s e).vt
  | false =>
    cases x <;> first | (cases hx; done) | skip
    · obtain ⟨a, vs, rfl, h, m, t⟩ := r
      exact ⟨a, vs, rfl, e.keep a _ h m, e.fresh h m, t.ext s e⟩
    · obtain ⟨a, vs, rfl, h, m, t⟩ := r
      exact ⟨a, vs, rfl, e.keep a _ h m, e.fresh h m, t.ext s e⟩
def VTs (K : PySem.W.Frag) (g : G) (H : Hp) : List PV → List V → Prop
  | [], vs => vs = []
  | x :: xs, vs => ∃ y ys, vs = y :: ys ∧ VT K g H x y ∧ VTs K g H xs ys
theorem VTs.ext {K : PySem.W.Frag} {g g' : G} {H H' : Hp} (s : Sane g H) (e : Ext g H g' H') : ∀ {x : List PV} {v : List V}, VTs K g H x v → VTs K g' H' x v
  | [], _, r => r
  | _ :: _, _, r => by
    obtain ⟨y, ys, rfl, h, t⟩ := r
    exact ⟨y, ys, rfl, h.ext s e, VTs.ext s e t⟩
theorem VRs.vts {K : PySem.W.Frag} {g : G} {H : Hp} : ∀ {x : List PV} {v : List V}, VRs K g H x v → VTs K g H x v
  | [], _, r => r
  | _ :: _, _, r => by
    obtain ⟨y, ys, rfl, h, t⟩ := r
    exact ⟨y, ys, rfl, h.vt, VRs.vts t⟩
theorem VTs.vrs {K : PySem.W.Frag} {g : G} {H : Hp} : ∀ {x : List PV} {v : List V}, VTs K g H x v → x.all PV.nb = true → VRs K g H x v
  | [], _, r, _ => r
  | _ :: _, _, r, hb => by
    obtain ⟨y, ys, rfl, h, t⟩ := r
    rw [List.all_cons, Bool.and_eq_true] at hb
    exact ⟨y, ys, rfl, h.vr hb.1, VTs.vrs t hb.2⟩
theorem VTs.length {K : PySem.W.Frag} {g : G} {H : Hp} : ∀ {x : List PV} {v : List V}, VTs K g H x v → v.length = x.length
  | [], _, r => by cases r; rfl
  | _ :: _, _, r => by
    obtain ⟨y, ys, rfl, h, t⟩ := r
    rw [List.length_cons, List.length_cons, VTs.length t]
theorem VRs.length {K : PySem.W.Frag} {g : G} {H : Hp} {x : List PV} {v : List V} (r : VRs K g H x v) : v.length = x.length := r.vts.length
theorem VRs.get {K : PySem.W.Frag} {g : G} {H : Hp} : ∀ {x : List PV} {v : List V} {i : Nat} {a : PV}, VRs K g H x v → x[i]? = some a → ∃ b, v[i]? = some b ∧ VR K g H a b
  | [], _, _, _, _, h => by simp at h
  | _ :: _, _, 0, _, r, h => by
    obtain ⟨y, ys, rfl, q, t⟩ := r
    simp at h; subst h
    exact ⟨y, rfl, q⟩
  | _ :: _, _, i + 1, _, r, h => by
    obtain ⟨y, ys, rfl, q, t⟩ := r
    obtain ⟨b, e1, e2⟩ := VRs.get (i := i) t (by simpa using h)
    exact ⟨b, by simpa using e1, e2⟩
theorem VRs.append {K : PySem.W.Frag} {g : G} {H : Hp} : ∀ {x x' : List PV} {v v' : List V}, VRs K g H x v → VRs K g H x' v' → VRs K g H (x ++ x') (v ++ v')
  | [], _, _, _, r, r' => by cases r; exact r'
  | _ :: _, _, _, _, r, r' => by
    obtain ⟨y, ys, rfl, h, t⟩ := r
    exact ⟨y, ys ++ _, rfl, h, VRs.append t r'⟩
theorem VRs.single {K : PySem.W.Frag} {g : G} {H : Hp} {x : PV} {v : V} (r : VR K g H x v) : VRs K g H [x] [v] := ⟨v, [], rfl, r, rfl⟩
theorem VRs.take {K : PySem.W.Frag} {g : G} {H : Hp} : ∀ {x : List PV} {v : List V} (n : Nat), VRs K g H x v → VRs K g H (x.take n) (v.take n)
  | _, _, 0, _ => by simp [VRs]
  | [], _, _ + 1, r => by cases r; rfl
  | _ :: _, _, n + 1, r => by
    obtain ⟨y, ys, rfl, h, t⟩ := r
    exact ⟨y, ys.take n, rfl, h, VRs.take n t⟩
theorem VRs.drop {K : PySem.W.Frag} {g : G} {H : Hp} : ∀ {x : List PV} {v : List V} (n : Nat), VRs K g H x v → VRs K g H (x.drop n) (v.drop n)
  | _, _, 0, r => r
  | [], _, _ + 1, r => by cases r; rfl
  | _ :: _, _, n + 1, r => by
    obtain ⟨y, ys, rfl, h, t⟩ := r
    exact VRs.drop n t
theorem VRs.set {K : PySem.W.Frag} {g : G} {H : Hp} : ∀ {x : List PV} {v : List V} {a : PV} {b : V} (n : Nat), VRs K g H x v → VR K g H a b → VRs K g H (x.set n a) (v.set n b)
  | [], _, _, _, _, r, _ => by cases r; rfl
  | _ :: _, _, _, _, 0, r, q => by
    obtain ⟨y, ys, rfl, h, t⟩ := r
    exact ⟨_, ys, rfl, q, t⟩
  | _ :: _, _, _, _, n + 1, r, q => by
    obtain ⟨y, ys, rfl, h, t⟩ := r
    exact ⟨y, ys.set n _, rfl, h, VRs.set n t q⟩

/-! ### slots -/
inductive Sl where
  | no
  | val (v : PV)
  | own (xs : List PV)
  | ownd (kvs : List (Key × PV))
  deriving Inhabited
abbrev En := List Sl
def SlR (K : PySem.W.Frag) (g : G) (H : Hp) : Sl → Option V → Option Addr → Prop
  | .no, _, o => o = none
  | .val x, y, o => o = none ∧ ∃ z, y = some z ∧ VR K g H x z
  | .own xs, y, o => ∃ a vs, y = some (.ref a) ∧ o = some a ∧ H a = some (.lst vs) ∧ VRs K g H xs vs
  | .ownd xs, y, o => ∃ a vs, y = some (.ref a) ∧ o = some a ∧ H a = some (.dK vs) ∧ VRk K g H xs vs
structure ER (K : PySem.W.Frag) (g : G) (H : Hp) (env : En) (σ : St) (oa : Nat → Option Addr) : Prop where
  len : env.length = σ.length
  sl : ∀ (i : Nat) (s : Sl) (y : Option V), env[i]? = some s → σ[i]? = some y → SlR K g H s y (oa i)
  out : ∀ i, env.length ≤ i → oa i = none
  inj : ∀ i j a, oa i = some a → oa j = some a → i = j
  mem : ∀ i a, oa i = some a → g.M a ∧ a ∉ g.φ ∧ H a ≠ none
theorem SlR.ext {K : PySem.W.Frag} {g g' : G} {H H' : Hp} (s : Sane g H) (e : Ext g H g' H') {x : Sl} {y : Option V} {o : Option Addr} (hn : ∀ a, o = some a → a ∉ g.φ) (r : SlR K g H x y o) : SlR K g' H' x y o := by
  cases x with
  | no => exact r
  | val x =>
    obtain ⟨h, z, q, t⟩ := r
    exact ⟨h, z, q, t.ext s e⟩
  | own xs =>
    obtain ⟨a, vs, h1, h2, h3, t⟩ := r
    exact ⟨a, vs, h1, h2, e.keep a _ h3 (hn a h2), t.ext s e⟩
  | ownd xs =>
    obtain ⟨a, vs, h1, h2, h3, t⟩ := r
    exact ⟨a, vs, h1, h2, e.keep a _ h3 (hn a h2), t.ext s e⟩
theorem ER.ext {K : PySem.W.Frag} {g g' : G} {H H' : Hp} (s : Sane g H) (e : Ext g H g' H') {env : En} {σ : St} {oa : Nat → Option Addr} (r : ER K g H env σ oa) : ER K g' H' env σ oa := by
  refine ⟨r.len, fun i s' y h1 h2 => (r.sl i s' y h1 h2).ext s e fun a q => (r.mem i a q).2.1, r.out, r.inj, fun i a q => ?_⟩
  obtain ⟨m1, m2, m3⟩ := r.mem i a q
  cases h : H a with
  | none => exact absurd h m3
  | some u => exact ⟨e.oldM a m1 m3, e.fresh h m2, by rw [e.keep a u h m2]; simp⟩
end PG


set_option Elab.async false
set_option maxRecDepth 100000
set_option linter.unusedVariables false
/-! PgIR: the small language, and what it does. -/
namespace PG
open PySem L2

/-- an exception: its class, its fields -/
structure XV where
  cls : String
  fs : List (String × PV)
inductive Ex (α : Type) where
  | ok (a : α)
  | exc (x : XV)
abbrev Rs (α : Type) := Option (Ex α × Hm)
def bindR {α β : Type} (r : Rs α) (f : α → Hm → Rs β) : Rs β :=
  match r with
  | none => none
  | some (.exc x, h) => some (.exc x, h)
  | some (.ok a, h) => f a h
def okR {α : Type} (a : α) (h : Hm) : Rs α := some (.ok a, h)
def liftR {α : Type} (o : Option α) (h : Hm) : Rs α :=
  match o with
  | none => none
  | some a => some (.ok a, h)

inductive Bo where
  | add | sub | mul | fdiv | mod | pow
  deriving DecidableEq
inductive Co where
  | eq | ne | lt | le | gt | ge | is | isnot | isin | notin
  deriving DecidableEq
inductive Bl where
  | len | int1 | min2 | max2 | min3 | tup1 | all1 | any1 | sum1 | ord1 | isi | min1 | max1 | srt1
  deriving DecidableEq
/-- methods of texts -/
inductive Ms where
  | lower | split | join | starts | starts3 | find | find3 | index | part
  deriving DecidableEq
inductive Pt where
  | nm (i : Nat)
  | tp (is : List Nat)

mutual
inductive E where
  | var (i : Nat)
  | cst (c : PV)
  | glb (x : String) (c : PV)
  | tup (es : Es)
  | lst (l : L)
  | rf (l : L)
  | bin (op : Bo) (a b : E)
  | neg (a : E)
  | cmp (op : Co) (a b : E)
  | chn (op1 op2 : Co) (a b c : E)
  | not (t : T)
  | bop (k : Bool) (es : Es)
  | ife (c : T) (a b : E)
  | idx (a i : E)
  | slc (a : E) (lo hi : Oe)
  | call (f : String) (es : Es)
  | blt (b : Bl) (es : Es)
  | bty (n : String)
  | ms (m : Ms) (o : E) (es : Es)
inductive Es where
  | nil
  | cons (e : E) (r : Es)
inductive Oe where
  | no
  | so (e : E)
inductive T where
  | tru (e : E)
  | not (t : T)
  | bop (k : Bool) (ts : Ts)
inductive Ts where
  | nil
  | cons (t : T) (r : Ts)
inductive Ot where
  | no
  | so (t : T)
inductive L where
  | dsp (es : Es)
  | cmp (p : Pt) (it : Iv) (c : Ot) (e : E)
  | lof (e : E)
  | lrg (e : E)
inductive Iv where
  | val (e : E)
  | rg1 (a : E)
  | rg2 (a b : E)
  | rv1 (a : E)
  | rv2 (a b : E)
  | enu (e : E)
end
mutual
inductive S where
  | asg (p : Pt) (e : E)
  | own (i : Nat) (l : L)
  | aug (i : Nat) (op : Bo) (e : E)
  | extV (i : Nat) (e : E)
  | popV (p : Pt) (i : Nat)
  | popX (i : Nat)
  | exp (e : E)
  | appV (i : Nat) (e : E)
  | app (t e : E)
  | setV (i : Nat) (k e : E)
  | setI (t k e : E)
  | ret (e : E)
  | retN
  | ife (c : T) (a b : Ss)
  | whl (c : T) (b : Ss)
  | fr (p : Pt) (it : Iv) (b : Ss)
  | brk | cnt | pass
  | frz (i : Nat)
  | never
inductive Ss where
  | nil
  | cons (s : S) (r : Ss)
end

/-! ### values -/
def asLst (h : Hm) : PV → Option (List PV)
  | .lst xs => some xs
  | .bor xs => some xs
  | .ref n => match h[n]? with
    | some (.lst xs) => some xs
    | _ => none
  | _ => none
def asSeq (h : Hm) : PV → Option (List PV)
  | .tup xs => some xs
  | v => asLst h v
def truth (h : Hm) : PV → Option Bool
  | .non => some false
  | .bl b => some b
  | .int i => some (i != 0)
  | .str s => some ((s.length : Int) != 0)
  | .tup xs => some (!xs.isEmpty)
  | .lst xs => some (!xs.isEmpty)
  | .bor xs => some (!xs.isEmpty)
  | .dct kvs => some (!kvs.isEmpty)
  | .bod kvs => some (!kvs.isEmpty)
  | .scr _ => none
  | .ty _ => none
  | .ref n => match h[n]? with
    | some (.lst xs) => some (!xs.isEmpty)
    | some (.dct kvs) => some (!kvs.isEmpty)
    | _ => none
def fit {α : Type} (n : Nat) (a : α) : Option α := if n ≤ sizeLine then some a else none
def mulOk (i j : Int) : Bool := decide ((-(2 ^ 64) < i ∧ i < 2 ^ 64) ∨ (-(2 ^ 64) < j ∧ j < 2 ^ 64))
def strRep (s : Str) (n : Nat) : Str := ⟨((List.replicate n s.cps.toList).flatten).toArray⟩
def bAdd (h : Hm) : PV → PV → Option PV
  | .int a, .int b => some (.int (a + b))
  | .str a, .str b => fit (a.length + b.length) (.str (a ++ b))
  | u, v => match asLst h u, asLst h v with
    | some xs, some ys => fit (xs.length + ys.length) (.lst (xs ++ ys))
    | _, _ => none
def bOp (h : Hm) : Bo → PV → PV → Option PV
  | .add, u, v => bAdd h u v
  | .sub, .int a, .int b => some (.int (a - b))
  | .mul, .int a, .int b => if mulOk a b = true then some (.int (a * b)) else none
  | .mul, .str s, .int n => if -(2 ^ 63) ≤ n ∧ n < 2 ^ 63 then fit (s.length * n.toNat) (.str (strRep s n.toNat)) else none
  | .mul, .lst xs, .int n => if -(2 ^ 63) ≤ n ∧ n < 2 ^ 63 then fit (xs.length * n.toNat) (.lst (List.replicate n.toNat xs).flatten) else none
  | .fdiv, .int a, .int b => if 0 < b ∧ b < 1073741824 then some (.int (a / b)) else none
  | .mod, .int a, .int b => if 0 < b then some (.int (a % b)) else none
  | .pow, .int a, .int b => if 0 ≤ b ∧ b ≤ 1000000 ∧ a.natAbs < 2 ^ 64 then some (.int (a ^ b.toNat)) else none
  | _, _, _ => none
/-- ==, of values that == tells apart as they stand -/
def cEq : PV → PV → Option Bool
  | .int a, .int b => some (decide (a = b))
  | .str a, .str b => some (decide (a = b))
  | .bl a, .bl b => some (decide (a = b))
  | .non, .non => some true
  | _, _ => none
/-- what == tells apart as it stands -/
def flatP : PV → Bool
  | .non => true
  | .int _ => true
  | .str _ => true
  | .bl _ => true
  | _ => false
def flatEq : PV → PV → Bool
  | .int a, .int b => decide (a = b)
  | .str a, .str b => decide (a = b)
  | .bl a, .bl b => decide (a = b)
  | .non, .non => true
  | _, _ => false
/-- ints and truth values do not meet -/
def kindP : PV → Nat
  | .int _ => 1
  | .str _ => 2
  | .bl _ => 3
  | _ => 0
def cIn (h : Hm) (u v : PV) : Option Bool :=
  match u, v with
  | .str a, .str b => some (!(Builtin.Str.occurrences b a 0 b.length 1).isEmpty)
  | u, v => match asSeq h v with
    | some xs => if (kindP u == 1 || kindP u == 2) = true ∧ xs.all (fun x => kindP x == kindP u) = true then some (xs.any fun x => flatEq x u) else none
    | none => none
def cOp (h : Hm) : Co → PV → PV → Option Bool
  | .isin, u, v => cIn h u v
  | .notin, u, v => (cIn h u v).map (!·)
  | .eq, u, v => cEq u v
  | .ne, u, v => (cEq u v).map (!·)
  | .lt, .int a, .int b => some (decide (a < b))
  | .le, .int a, .int b => some (decide (a ≤ b))
  | .gt, .int a, .int b => some (decide (b < a))
  | .ge, .int a, .int b => some (decide (b ≤ a))
  | .lt, .str a, .str b => some (decide (a.cps.toList < b.cps.toList))
  | .le, .str a, .str b => some (!decide (b.cps.toList < a.cps.toList))
  | .is, u, .non => some (match u with
    | .non => true
    | _ => false)
  | .isnot, u, .non => some (match u with
    | .non => false
    | _ => true)
  | _, _, _ => none
def cIdx (h : Hm) (u v : PV) : Option PV :=
  match v with
  | .int i => match u with
    | .str s => (atI s.cps.toList i).map fun c => .str ⟨#[c]⟩
    | u => match asSeq h u with
      | some xs => atI xs i
      | none => none
  | _ => none
def cutP (xs : List PV) (lo hi : Option Int) : List PV := (xs.drop (HT.sIx xs.length 0 lo)).take (HT.sIx xs.length xs.length hi - HT.sIx xs.length 0 lo)
def cutSt (s : Str) (lo hi : Option Int) : Str := ⟨((s.cps.toList.drop (HT.sIx s.length 0 lo)).take (HT.sIx s.length s.length hi - HT.sIx s.length 0 lo)).toArray⟩
def cSlc (h : Hm) (u : PV) (lo hi : Option Int) : Option PV :=
  match u with
  | .str s => some (.str (cutSt s lo hi))
  | .tup xs => some (.tup (cutP xs lo hi))
  | .scr xs => some (.lst (cutP xs lo hi))
  | u => match asLst h u with
    | some xs => some (.lst (cutP xs lo hi))
    | none => none
def tyOf (h : Hm) : PV → Option String
  | .non => some "NoneType"
  | .bl _ => some "bool"
  | .int _ => some "int"
  | .str _ => some "str"
  | .tup _ => some "tuple"
  | .lst _ => some "list"
  | .bor _ => some "list"
  | .dct _ => some "dict"
  | .bod _ => some "dict"
  | .ref n => match h[n]? with
    | some (.lst _) => some "list"
    | some (.dct _) => some "dict"
    | _ => none
  | .scr _ => none
  | .ty _ => none
/-- isinstance of built-in types -/
def isTy (t c : String) : Bool := t == c || (t == "bool" && c == "int")
def tyKnown : List String := ["int", "bool", "str", "tuple", "list", "dict"]
def pInts : List PV → Option (List Int)
  | [] => some []
  | .int i :: r => (pInts r).map (i :: ·)
  | _ => none
def pBls : List PV → Option (List Bool)
  | [] => some []
  | .bl i :: r => (pBls r).map (i :: ·)
  | _ => none
def blLen (h : Hm) : List PV → Option PV
  | [v] => match v with
    | .str s => some (.int s.length)
    | v => (asSeq h v).map fun xs => .int xs.length
  | _ => none
def blInt (_ : Hm) : List PV → Option PV
  | [v] => match v with
    | .int i => some (.int i)
    | _ => none
  | _ => none
def blMin2 (_ : Hm) : List PV → Option PV
  | [u, v] => match u, v with
    | .int i, .int j => some (.int (if j < i then j else i))
    | _, _ => none
  | _ => none
def blMax2 (_ : Hm) : List PV → Option PV
  | [u, v] => match u, v with
    | .int i, .int j => some (.int (if j > i then j else i))
    | _, _ => none
  | _ => none
def blMin3 (_ : Hm) : List PV → Option PV
  | [u, v, w] => match u, v, w with
    | .int a, .int b, .int c => some (.int (if b < a then (if c < b then c else b) else (if c < a then c else a)))
    | _, _, _ => none
  | _ => none
def blTup (h : Hm) : List PV → Option PV
  | [v] => (asSeq h v).map .tup
  | _ => none
def blAll (h : Hm) : List PV → Option PV
  | [v] => ((asLst h v).bind pBls).map fun bs => .bl (bs.all id)
  | _ => none
def blAny (h : Hm) : List PV → Option PV
  | [v] => ((asLst h v).bind pBls).map fun bs => .bl (bs.any id)
  | _ => none
def blSum (h : Hm) : List PV → Option PV
  | [v] => ((asLst h v).bind pInts).map fun bs => .int bs.sum
  | _ => none
def pTys : List PV → Option (List String)
  | [] => some []
  | v :: r => match v with
    | .ty n => (pTys r).map (n :: ·)
    | _ => none
def blIsi2 (h : Hm) (u c : PV) : Option PV :=
  match tyOf h u with
  | none => none
  | some t => match c with
    | .ty n => if tyKnown.contains n then some (.bl (isTy t n)) else none
    | .tup cs => match pTys cs with
      | some ns => if ns.all tyKnown.contains then some (.bl (ns.any (isTy t))) else none
      | none => none
    | _ => none
def blIsi (h : Hm) : List PV → Option PV
  | [u, c] => blIsi2 h u c
  | _ => none
def pStrs : List PV → Option (List Str)
  | [] => some []
  | v :: r => match v with
    | .str i => (pStrs r).map (i :: ·)
    | _ => none
/-- the greatest -/
def maxL : List Int → Option Int
  | [] => none
  | a :: r => some (r.foldl (fun m y => if m < y then y else m) a)
def minL : List Int → Option Int
  | [] => none
  | a :: r => some (r.foldl (fun m y => if y < m then y else m) a)
def blMax1 (h : Hm) : List PV → Option PV
  | [v] => (((asLst h v).bind pInts).bind maxL).map .int
  | _ => none
def blMin1 (h : Hm) : List PV → Option PV
  | [v] => (((asLst h v).bind pInts).bind minL).map .int
  | _ => none
def insI (x : Int) : List Int → List Int
  | [] => [x]
  | y :: r => if x ≤ y then x :: y :: r else y :: insI x r
def srtI (xs : List Int) : List Int := xs.foldr insI []
def leS (a b : Str) : Bool := !decide (b.cps.toList < a.cps.toList)
def insS (x : Str) : List Str → List Str
  | [] => [x]
  | y :: r => if leS x y = true then x :: y :: r else y :: insS x r
def srtS (xs : List Str) : List Str := xs.foldr insS []
/-- sorted: ints, texts -/
def blSrt (h : Hm) : List PV → Option PV
  | [v] => match asLst h v with
    | none => none
    | some xs => if xs.length < 64 then match pInts xs with
        | some ns => some (.lst ((srtI ns).map .int))
        | none => match pStrs xs with
          | some ss => some (.lst ((srtS ss).map .str))
          | none => none
      else none
  | _ => none
def okS (s : Str) : Bool := decide (s.length ≤ sizeLine)
def sMt (h : Hm) : Ms → Str → List PV → Option PV
  | .lower, a, [] => if a.length ≤ 5592405 ∧ okS (Txt.lower a) = true then some (.str (Txt.lower a)) else none
  | .split, a, [.str b] => if b.length ≠ 0 ∧ a.length + 2 ≤ sizeLine ∧ (Txt.split a b).all okS = true then some (.lst ((Txt.split a b).map .str)) else none
  | .join, a, [v] => match (asSeq h v).bind pStrs with
    | some ys => if (ys.map (·.length)).sum + ys.length * a.length ≤ 16777216 ∧ okS (Txt.join a ys) = true then some (.str (Txt.join a ys)) else none
    | none => none
  | .starts, a, [.str b] => some (.bl (Txt.startswith a b))
  | .starts3, a, [.str b, .int i] => some (.bl (Txt.startswith3 a b i))
  | .find, a, [.str b] => some (.int (Txt.find a b))
  | .find3, a, [.str b, .int i] => some (.int (Txt.find3 a b i))
  | .index, a, [.str b] => match Builtin.Str.occurrences a b 0 a.length 1 with
    | i :: _ => some (.int (i : Nat))
    | [] => none
  | .part, a, [.str b] => if b.length ≠ 0 ∧ a.length ≤ sizeLine ∧ okS (Txt.partition a b).1 = true ∧ okS (Txt.partition a b).2.1 = true ∧ okS (Txt.partition a b).2.2 = true then
      some (.tup [.str (Txt.partition a b).1, .str (Txt.partition a b).2.1, .str (Txt.partition a b).2.2]) else none
  | _, _, _ => none
def blOrd (_ : Hm) : List PV → Option PV
  | [v] => match v with
    | .str z => if z.length = 1 then some (.int (z.cps.getD 0 0 : Nat)) else none
    | _ => none
  | _ => none
def cBl (h : Hm) : Bl → List PV → Option PV
  | .len => blLen h
  | .int1 => blInt h
  | .min2 => blMin2 h
  | .max2 => blMax2 h
  | .min3 => blMin3 h
  | .tup1 => blTup h
  | .all1 => blAll h
  | .any1 => blAny h
  | .sum1 => blSum h
  | .ord1 => blOrd h
  | .isi => blIsi h
  | .min1 => blMin1 h
  | .max1 => blMax1 h
  | .srt1 => blSrt h

/-! ### what it does -/
abbrev Cf := String → List PV → Hm → Rs PV
def slGet (env : En) (i : Nat) : Option PV :=
  match env[i]? with
  | some (.val v) => some v
  | some (.own xs) => some (.bor xs)
  | some (.ownd kvs) => some (.bod kvs)
  | _ => none
/-- a target's slots set -/
def tpSet (env : En) : List Nat → List PV → Option En
  | [], [] => some env
  | i :: is, x :: xs => if i < env.length then tpSet (env.set i (.val x)) is xs else none
  | _, _ => none
def ptSet (env : En) : Pt → PV → Option En
  | .nm i, v => if i < env.length ∧ v.nb = true then some (env.set i (.val v)) else none
  | .tp is, v => match v with
    | .tup xs => tpSet env is xs
    | _ => none
def ptSlots : Pt → List Nat
  | .nm i => [i]
  | .tp is => is
def wipeE (env : En) : List Nat → En
  | [] => env
  | v :: vs => (wipeE env vs).set v .no
/-- the items that a loop walks -/
def itVal : PV → Option (List PV)
  | .lst xs => some xs
  | .scr xs => some xs
  | .tup xs => some xs
  | .str s => some (s.cps.toList.map fun c => .str ⟨#[c]⟩)
  | _ => none
def rgItems (lo hi : Int) : Option (List PV) :=
  if -(2 ^ 62) ≤ lo ∧ lo < 2 ^ 62 ∧ -(2 ^ 62) ≤ hi ∧ hi < 2 ^ 62 then some ((List.range (hi - lo).toNat).map fun (k : Nat) => .int (lo + k)) else none
/-- a range from its end -/
def rvItems (lo hi : Int) : Option (List PV) :=
  if -(2 ^ 62) ≤ lo ∧ lo < 2 ^ 62 ∧ -(2 ^ 62) ≤ hi ∧ hi < 2 ^ 62 then some ((List.range (hi - lo).toNat).map fun (k : Nat) => .int (lo + ((hi - lo).toNat - 1 - k : Nat))) else none
def enItems (xs : List PV) : List PV := (List.range xs.length).map fun i => .tup [.int (i : Nat), xs.getD i .non]
def lcLoop (env : En) (p : Pt) (c : En → Hm → Rs Bool) (e : En → Hm → Rs PV) : List PV → Hm → List PV → Rs (List PV)
  | [], h, acc => okR acc h
  | x :: xs, h, acc => match ptSet env p x with
    | none => none
    | some env' => bindR (c env' h) fun b h1 =>
      if b = true then bindR (e env' h1) fun v h2 => if v.nb = true ∧ acc.length < sizeLine then lcLoop env p c e xs h2 (acc ++ [v]) else none
      else lcLoop env p c e xs h1 acc
def noX {α : Type} (r : Rs α) : Rs α :=
  match r with
  | some (.ok a, h) => some (.ok a, h)
  | _ => none

mutual
def evE (cf : Cf) : E → En → Hm → Rs PV
  | .var i, env, h => liftR (slGet env i) h
  | .cst c, _, h => okR c h
  | .glb _ c, _, h => okR c h
  | .tup es, env, h => bindR (evEs cf es env h) fun vs h1 => if vs.all PV.nb = true ∧ vs.length ≤ sizeLine then okR (.tup vs) h1 else none
  | .lst l, env, h => bindR (evL cf l env h) fun vs h1 => okR (.lst vs) h1
  | .rf l, env, h => bindR (evL cf l env h) fun vs h1 => okR (.ref h1.length) (h1 ++ [.lst vs])
  | .bin op a b, env, h => bindR (evE cf a env h) fun u h1 => bindR (evE cf b env h1) fun v h2 => liftR (bOp h2 op u v) h2
  | .neg a, env, h => bindR (evE cf a env h) fun u h1 => match u with
    | .int i => okR (.int (-i)) h1
    | _ => none
  | .cmp op a b, env, h => bindR (evE cf a env h) fun u h1 => bindR (evE cf b env h1) fun v h2 => liftR ((cOp h2 op u v).map .bl) h2
  | .chn op op2 a b c, env, h => bindR (evE cf a env h) fun u h1 => bindR (evE cf b env h1) fun v h2 => match cOp h2 op u v with
    | none => none
    | some false => okR (.bl false) h2
    | some true => bindR (evE cf c env h2) fun w h3 => liftR ((cOp h3 op2 v w).map .bl) h3
  | .not a, env, h => bindR (evT cf a env h) fun b h1 => okR (.bl (!b)) h1
  | .bop k es, env, h => evB cf k es env h
  | .ife c a b, env, h => bindR (evT cf c env h) fun k h1 => if k = true then evE cf a env h1 else evE cf b env h1
  | .idx a i, env, h => bindR (evE cf a env h) fun u h1 => bindR (evE cf i env h1) fun v h2 => liftR (cIdx h2 u v) h2
  | .slc a lo hi, env, h => bindR (evE cf a env h) fun u h1 => bindR (evO cf lo env h1) fun l h2 => bindR (evO cf hi env h2) fun k h3 => liftR (cSlc h3 u l k) h3
  | .call f es, env, h => bindR (evEs cf es env h) fun vs h1 => if vs.all PV.nb = true then cf f vs h1 else none
  | .blt b es, env, h => bindR (evEs cf es env h) fun vs h1 => liftR (cBl h1 b vs) h1
  | .bty n, _, h => okR (.ty n) h
  | .ms m o es, env, h => bindR (evE cf o env h) fun u h1 => match u with
    | .str a => bindR (evEs cf es env h1) fun vs h2 => liftR (sMt h2 m a vs) h2
    | _ => none
/-- as a test -/
def evT (cf : Cf) : T → En → Hm → Rs Bool
  | .tru e, env, h => bindR (evE cf e env h) fun v h1 => liftR (truth h1 v) h1
  | .not a, env, h => bindR (evT cf a env h) fun b h1 => okR (!b) h1
  | .bop k es, env, h => evTB cf k es env h
def evEs (cf : Cf) : Es → En → Hm → Rs (List PV)
  | .nil, _, h => okR [] h
  | .cons e r, env, h => bindR (evE cf e env h) fun v h1 => bindR (evEs cf r env h1) fun vs h2 => okR (v :: vs) h2
/-- and, or as values -/
def evB (cf : Cf) : Bool → Es → En → Hm → Rs PV
  | _, .nil, _, _ => none
  | _, .cons e .nil, env, h => evE cf e env h
  | k, .cons e r, env, h => bindR (evE cf e env h) fun v h1 => match v with
    | .bl b => if b = k then evB cf k r env h1 else okR (.bl b) h1
    | _ => none
/-- and, or as tests -/
def evTB (cf : Cf) : Bool → Ts → En → Hm → Rs Bool
  | _, .nil, _, _ => none
  | _, .cons e .nil, env, h => evT cf e env h
  | k, .cons e r, env, h => bindR (evT cf e env h) fun b h1 => if b = k then evTB cf k r env h1 else okR b h1
def evO (cf : Cf) : Oe → En → Hm → Rs (Option Int)
  | .no, _, h => okR none h
  | .so e, env, h => bindR (evE cf e env h) fun v h1 => match v with
    | .int i => okR (some i) h1
    | _ => none
/-- a test of a comprehension -/
def evC (cf : Cf) : Ot → En → Hm → Rs Bool
  | .no, _, h => okR true h
  | .so e, env, h => evT cf e env h
def evL (cf : Cf) : L → En → Hm → Rs (List PV)
  | .dsp es, env, h => bindR (evEs cf es env h) fun vs h1 => if vs.all PV.nb = true ∧ vs.length ≤ sizeLine then okR vs h1 else none
  | .cmp p it c e, env, h => bindR (evI cf it env h) fun xs h1 => noX (lcLoop (wipeE env (ptSlots p)) p (evC cf c) (evE cf e) xs h1 [])
  | .lof e, env, h => bindR (evE cf e env h) fun v h1 => liftR (asSeq h1 v) h1
  | .lrg e, env, h => bindR (evE cf e env h) fun v h1 => match v with
    | .int n => if n ≤ 16777216 ∧ 0 ≤ n then okR ((List.range n.toNat).map fun (k : Nat) => .int k) h1 else none
    | _ => none
def evI (cf : Cf) : Iv → En → Hm → Rs (List PV)
  | .val e, env, h => bindR (evE cf e env h) fun v h1 => liftR (itVal v) h1
  | .rg1 a, env, h => bindR (evE cf a env h) fun v h1 => match v with
    | .int n => liftR (rgItems 0 n) h1
    | _ => none
  | .rg2 a b, env, h => bindR (evE cf a env h) fun u h1 => bindR (evE cf b env h1) fun v h2 => match u, v with
    | .int m, .int n => liftR (rgItems m n) h2
    | _, _ => none
  | .rv1 a, env, h => bindR (evE cf a env h) fun v h1 => match v with
    | .int n => liftR (rvItems 0 n) h1
    | _ => none
  | .rv2 a b, env, h => bindR (evE cf a env h) fun u h1 => bindR (evE cf b env h1) fun v h2 => match u, v with
    | .int m, .int n => liftR (rvItems m n) h2
    | _, _ => none
  | .enu e, env, h => bindR (evE cf e env h) fun v h1 => match v with
    | .lst xs => okR (enItems xs) h1
    | _ => none
end

/-- how a statement ends -/
inductive Fl where
  | nx | bk | ct
  | rt (v : PV)
  | xc (x : XV)
abbrev Rt := Option (Fl × En × Hm)
/-- an expression within a statement -/
def bindS {α : Type} (r : Rs α) (env : En) (f : α → Hm → Rt) : Rt :=
  match r with
  | none => none
  | some (.exc x, h) => some (.xc x, env, h)
  | some (.ok a, h) => f a h
def seqS (r : Rt) (k : En → Hm → Rt) : Rt :=
  match r with
  | some (.nx, env, h) => k env h
  | r => r
/-- a cell's list gets an item -/
def refApp (env : En) (h : Hm) (v : PV) (n : Nat) : Rt :=
  match h[n]? with
  | some (.lst xs) => if v.nb = true ∧ xs.length < sizeLine then some (.nx, env, h.set n (.lst (xs ++ [v]))) else none
  | _ => none
def isCell (h : Hm) : PV → Option Nat
  | .ref n => match h[n]? with
    | some (.lst _) => some n
    | _ => none
  | _ => none
/-- o[k] = v -/
def ownSet (env : En) (h : Hm) (j : Nat) (xs : List PV) (k v : PV) : Rt :=
  match k with
  | .int k => match ixN xs.length k with
    | some n => if v.nb = true then some (.nx, env.set j (.own (xs.set n v)), h) else none
    | none => none
  | _ => none
def refSet (env : En) (h : Hm) (u k v : PV) : Rt :=
  match u with
  | .ref n => match h[n]? with
    | some (.lst xs) => match k with
      | .int k => match ixN xs.length k with
        | some m => if v.nb = true then some (.nx, env, h.set n (.lst (xs.set m v))) else none
        | none => none
      | _ => none
    | _ => none
  | _ => none
/-- a cell's list gets more items -/
def refExt (env : En) (h : Hm) (zs : List PV) (n : Nat) : Rt :=
  match h[n]? with
  | some (.lst xs) => if xs.length + zs.length ≤ sizeLine then some (.nx, env, h.set n (.lst (xs ++ zs))) else none
  | _ => none
/-- the last item is taken off -/
def popOf (env : En) (h : Hm) (i : Nat) : Option (PV × En × Hm) :=
  match env[i]? with
  | some (.own xs) => match xs.getLast? with
    | some y => some (y, env.set i (.own xs.dropLast), h)
    | none => none
  | some (.val (.ref n)) => match h[n]? with
    | some (.lst xs) => match xs.getLast? with
      | some y => some (y, env, h.set n (.lst xs.dropLast))
      | none => none
    | _ => none
  | _ => none
/-- x op= y, of ints and texts -/
def augOp : Bo → PV → PV → Option PV
  | .add, .int a, .int b => some (.int (a + b))
  | .sub, .int a, .int b => some (.int (a - b))
  | _, _, _ => none
def forL (p : Pt) (body : En → Hm → Rt) : List PV → En → Hm → Rt
  | [], env, h => some (.nx, env, h)
  | x :: xs, env, h => match ptSet env p x with
    | none => none
    | some env1 => match body env1 h with
      | some (.nx, env2, h2) => forL p body xs env2 h2
      | some (.ct, env2, h2) => forL p body xs env2 h2
      | some (.bk, env2, h2) => some (.nx, env2, h2)
      | r => r
def whl (c : En → Hm → Rs Bool) (body : En → Hm → Rt) : Nat → En → Hm → Rt
  | 0, _, _ => none
  | n + 1, env, h => bindS (c env h) env fun b h1 => if b = true then match body env h1 with
      | some (.nx, env2, h2) => whl c body n env2 h2
      | some (.ct, env2, h2) => whl c body n env2 h2
      | some (.bk, env2, h2) => some (.nx, env2, h2)
      | r => r
    else some (.nx, env, h1)
/-- turns of a while, more than any proof counts -/
def fuel : Nat := 1000000000

mutual
def evS (cf : Cf) : S → En → Hm → Rt
  | .asg p e, env, h => bindS (evE cf e env h) env fun v h1 => match ptSet env p v with
    | some env' => some (.nx, env', h1)
    | none => none
  | .own i l, env, h => bindS (evL cf l env h) env fun xs h1 => if i < env.length then some (.nx, env.set i (.own xs), h1) else none
  | .aug i op e, env, h => match slGet env i with
    | some u => bindS (evE cf e env h) env fun v h1 => match augOp op u v with
      | some w => if w.nb = true then some (.nx, env.set i (.val w), h1) else none
      | none => none
    | none => none
  | .extV i e, env, h => match env[i]? with
    | some (.own xs) => bindS (evE cf e env h) env fun v h1 => match asLst h1 v with
      | some zs => if xs.length + zs.length ≤ sizeLine then some (.nx, env.set i (.own (xs ++ zs)), h1) else none
      | none => none
    | some (.val u) => match isCell h u with
      | some n => bindS (evE cf e env h) env fun v h1 => match asLst h1 v with
        | some zs => refExt env h1 zs n
        | none => none
      | none => none
    | _ => none
  | .popV p i, env, h => match popOf env h i with
    | some (y, env1, h1) => match ptSet env1 p y with
      | some env2 => some (.nx, env2, h1)
      | none => none
    | none => none
  | .popX i, env, h => match popOf env h i with
    | some (_, env1, h1) => some (.nx, env1, h1)
    | none => none
  | .exp e, env, h => bindS (evE cf e env h) env fun _ h1 => some (.nx, env, h1)
  | .appV i e, env, h => match env[i]? with
    | some (.own xs) => bindS (evE cf e env h) env fun v h1 => if v.nb = true ∧ xs.length < sizeLine then some (.nx, env.set i (.own (xs ++ [v])), h1) else none
    | some (.val u) => match isCell h u with
      | some n => bindS (evE cf e env h) env fun v h1 => refApp env h1 v n
      | none => none
    | _ => none
  | .app t e, env, h => bindS (evE cf t env h) env fun u h1 => match isCell h1 u with
    | some n => bindS (evE cf e env h1) env fun v h2 => refApp env h2 v n
    | none => none
  | .setV i k e, env, h => bindS (evE cf e env h) env fun v h1 => match env[i]? with
    | some (.own xs) => bindS (evE cf k env h1) env fun w h2 => ownSet env h2 i xs w v
    | some (.val u) => bindS (evE cf k env h1) env fun w h2 => refSet env h2 u w v
    | _ => none
  | .setI t k e, env, h => bindS (evE cf e env h) env fun v h1 => bindS (evE cf t env h1) env fun u h2 => bindS (evE cf k env h2) env fun w h3 => refSet env h3 u w v
  | .ret e, env, h => bindS (evE cf e env h) env fun v h1 => if v.nb = true then some (.rt v, env, h1) else none
  | .retN, env, h => some (.rt .non, env, h)
  | .ife c a b, env, h => bindS (evT cf c env h) env fun k h1 => if k = true then evSs cf a env h1 else evSs cf b env h1
  | .whl c b, env, h => whl (evT cf c) (evSs cf b) fuel env h
  | .fr p it b, env, h => bindS (evI cf it env h) env fun xs h1 => forL p (evSs cf b) xs env h1
  | .brk, env, h => some (.bk, env, h)
  | .cnt, env, h => some (.ct, env, h)
  | .pass, env, h => some (.nx, env, h)
  | .frz i, env, h => match env[i]? with
    | some (.own xs) => some (.nx, env.set i (.val (.lst xs)), h)
    | _ => some (.nx, env, h)
  | .never, _, _ => none
def evSs (cf : Cf) : Ss → En → Hm → Rt
  | .nil, env, h => some (.nx, env, h)
  | .cons s r, env, h => seqS (evS cf s env h) (evSs cf r)
end

structure FnDef where
  np : Nat
  ns : Nat
  body : Ss
def runB (cf : Cf) (d : FnDef) (as : List PV) (h : Hm) : Rs PV :=
  if as.length = d.np ∧ d.np ≤ d.ns then
    match evSs cf d.body (as.map .val ++ List.replicate (d.ns - d.np) .no) h with
    | some (.nx, _, h') => some (.ok .non, h')
    | some (.rt v, _, h') => some (.ok v, h')
    | some (.xc x, _, h') => some (.exc x, h')
    | _ => none
  else none
abbrev Tb := String → Option FnDef
def callF (T : Tb) : Nat → Cf
  | 0, _, _, _ => none
  | k + 1, x, as, h => match T x with
    | none => none
    | some d => runB (callF T k) d as h
end PG


set_option Elab.async false
set_option maxRecDepth 100000
set_option linter.unusedVariables false
/-! PgS1: what an expression of the text does is what the small language says. The judgements, the steps. -/
namespace PG
open PySem L2

def XR (K : PySem.W.Frag) (ca : CA) (g : G) (H : Hp) (x : XV) (cls : Value) (d : Option Addr) : Prop :=
  cls = .ref (ca (Str.ofString x.cls)) ∧ ∃ a vs, d = some a ∧ H a = some (.xd vs) ∧ VRf K g H (x.fs.map fun p => (Str.ofString p.1, p.2)) vs

/-- an outcome, from (g, H) on -/
def Fin {α : Type} (K : PySem.W.Frag) (ca : CA) (W : WX) (σ : St) (g : G) (H : Hp) (res : Rs α) (P : α → Hm → G → Hp → Prop) : Prop :=
  match res with
  | none => False
  | some (.ok a, h') => ∀ g' H', Ext g H g' H' → SR K ca g' h' H' → P a h' g' H'
  | some (.exc x, h') => ∀ g' H' cls d, Ext g H g' H' → SR K ca g' h' H' → XR K ca g' H' x cls d → W cls d σ H'

section
variable {K : PySem.W.Frag} {ca : CA} {W : WX} {σ : St} {g : G} {H : Hp} {h : Hm}
theorem Fin.bind {α β : Type} {r : Rs α} {f : α → Hm → Rs β} {P : β → Hm → G → Hp → Prop} (q : Fin K ca W σ g H (bindR r f) P) :
    Fin K ca W σ g H r fun a h1 g1 H1 => Fin K ca W σ g1 H1 (f a h1) P := by
  rcases r with _ | ⟨a | x, h1⟩
  · exact q
  · intro g1 H1 e1 s1
    show Fin K ca W σ g1 H1 (f a h1) P
    have q' : Fin K ca W σ g H (f a h1) P := q
    rcases hf : f a h1 with _ | ⟨b | x, h2⟩
    · rw [hf] at q'; exact q'
    · rw [hf] at q'; exact fun g2 H2 e2 s2 => q' g2 H2 (e1.trans e2) s2
    · rw [hf] at q'; exact fun g2 H2 c d e2 s2 => q' g2 H2 c d (e1.trans e2) s2
  · exact q
theorem Fin.imp {α : Type} {r : Rs α} {P P' : α → Hm → G → Hp → Prop} (q : Fin K ca W σ g H r P) (f : ∀ a h' g' H', Ext g H g' H' → SR K ca g' h' H' → P a h' g' H' → P' a h' g' H') : Fin K ca W σ g H r P' := by
  rcases r with _ | ⟨a | x, h1⟩
  · exact q
  · exact fun g' H' e s => f a h1 g' H' e s (q g' H' e s)
  · exact q
theorem Fin.ok {α : Type} {a : α} {P : α → Hm → G → Hp → Prop} (q : Fin K ca W σ g H (okR a h) P) {g' : G} {H' : Hp} (e : Ext g H g' H') (s : SR K ca g' h H') : P a h g' H' := q g' H' e s
theorem Fin.here {α : Type} {a : α} {P : α → Hm → G → Hp → Prop} (q : Fin K ca W σ g H (okR a h) P) (s : SR K ca g h H) : P a h g H := q g H (Ext.refl g H) s
theorem Fin.lift {α : Type} {o : Option α} {P : α → Hm → G → Hp → Prop} (q : Fin K ca W σ g H (liftR o h) P) : ∃ a, o = some a ∧ Fin K ca W σ g H (okR a h) P := by
  cases o with
  | none => exact q.elim
  | some a => exact ⟨a, rfl, q⟩
end

/-! ### readings by outcomes -/
def rdE (K : PySem.W.Frag) (ca : CA) (W : WX) (m : En → Hm → Rs PV) : TE := fun σ H Q => ∃ g oa env h, ER K g H env σ oa ∧ SR K ca g h H ∧
  Fin K ca W σ g H (m env h) fun v _ g' H' => ∀ y, VT K g' H' v y → Q y H'
def rdA (K : PySem.W.Frag) (ca : CA) (W : WX) (m : En → Hm → Rs (List PV)) : TA := fun σ H Q => ∃ g oa env h, ER K g H env σ oa ∧ SR K ca g h H ∧
  Fin K ca W σ g H (m env h) fun v _ g' H' => ∀ y, VTs K g' H' v y → Q y H'
def rdT (K : PySem.W.Frag) (ca : CA) (W : WX) (m : En → Hm → Rs Bool) : TT := fun σ H Q => ∃ g oa env h, ER K g H env σ oa ∧ SR K ca g h H ∧
  Fin K ca W σ g H (m env h) fun v _ _ H' => Q v H'
def rdO (K : PySem.W.Frag) (ca : CA) (W : WX) (m : En → Hm → Rs (Option Int)) : TO := fun σ H Q => ∃ g oa env h, ER K g H env σ oa ∧ SR K ca g h H ∧
  Fin K ca W σ g H (m env h) fun v _ _ H' => Q v H'
/-- a new list -/
def rdL (K : PySem.W.Frag) (ca : CA) (W : WX) (m : En → Hm → Rs (List PV)) : TE := fun σ H Q => ∃ g oa env h, ER K g H env σ oa ∧ SR K ca g h H ∧
  Fin K ca W σ g H (m env h) fun xs _ g' H' => ∀ p vs, H p = none → H' p = some (.lst vs) → g'.M p → p ∉ g'.φ → VRs K g' H' xs vs → Q (.ref p) H'
/-- what walks the items xs, from (g, H) on -/
def Wk (K : PySem.W.Frag) (ca : CA) (g : G) (H : Hp) (J : It) (xs : List PV) : Prop :=
  ∀ g' H', ExtM g H g' H' → (∀ i, xs.length ≤ i → J.stop i H') ∧ ∀ i x, xs[i]? = some x → J.go i H' ∧
    ∀ y H'', J.yld i H' y H'' → ∃ g'', Ext g' H' g'' H'' ∧ (∀ h', SR K ca g' h' H' → SR K ca g'' h' H'') ∧ VR K g'' H'' x y
def rdI (K : PySem.W.Frag) (ca : CA) (W : WX) (m : En → Hm → Rs (List PV)) : St → Hp → (L2.It → Hp → Prop) → Prop := fun σ H R => ∃ g oa env h, ER K g H env σ oa ∧ SR K ca g h H ∧
  Fin K ca W σ g H (m env h) fun xs _ g' H' => ∀ J, Wk K ca g' H' J xs → R J H'

section
variable {K : PySem.W.Frag} {ca : CA} {W : WX} {σ : St} {g : G} {H : Hp} {env : En} {h : Hm} {oa : Nat → Option Addr}
theorem step {β : Type} {m : En → Hm → Rs PV} {k : PV → Hm → Rs β} {P : β → Hm → G → Hp → Prop} {Q : VK} (er : ER K g H env σ oa) (sr : SR K ca g h H) (f : Fin K ca W σ g H (bindR (m env h) k) P)
    (hQ : ∀ y H1 g1 h1 v, Ext g H g1 H1 → SR K ca g1 h1 H1 → VT K g1 H1 v y → Fin K ca W σ g1 H1 (k v h1) P → Q y H1) : rdE K ca W m σ H Q :=
  ⟨g, oa, env, h, er, sr, f.bind.imp fun v h1 g1 H1 e s q y r => hQ y H1 g1 h1 v e s r q⟩
theorem stepA {β : Type} {m : En → Hm → Rs (List PV)} {k : List PV → Hm → Rs β} {P : β → Hm → G → Hp → Prop} {Q : List V → Hp → Prop} (er : ER K g H env σ oa) (sr : SR K ca g h H) (f : Fin K ca W σ g H (bindR (m env h) k) P)
    (hQ : ∀ y H1 g1 h1 v, Ext g H g1 H1 → SR K ca g1 h1 H1 → VTs K g1 H1 v y → Fin K ca W σ g1 H1 (k v h1) P → Q y H1) : rdA K ca W m σ H Q :=
  ⟨g, oa, env, h, er, sr, f.bind.imp fun v h1 g1 H1 e s q y r => hQ y H1 g1 h1 v e s r q⟩
theorem stepT {β : Type} {m : En → Hm → Rs Bool} {k : Bool → Hm → Rs β} {P : β → Hm → G → Hp → Prop} {Q : Bool → Hp → Prop} (er : ER K g H env σ oa) (sr : SR K ca g h H) (f : Fin K ca W σ g H (bindR (m env h) k) P)
    (hQ : ∀ b H1 g1 h1, Ext g H g1 H1 → SR K ca g1 h1 H1 → Fin K ca W σ g1 H1 (k b h1) P → Q b H1) : rdT K ca W m σ H Q :=
  ⟨g, oa, env, h, er, sr, f.bind.imp fun v h1 g1 H1 e s q => hQ v H1 g1 h1 e s q⟩
theorem stepO {β : Type} {m : En → Hm → Rs (Option Int)} {k : Option Int → Hm → Rs β} {P : β → Hm → G → Hp → Prop} {Q : Option Int → Hp → Prop} (er : ER K g H env σ oa) (sr : SR K ca g h H) (f : Fin K ca W σ g H (bindR (m env h) k) P)
    (hQ : ∀ b H1 g1 h1, Ext g H g1 H1 → SR K ca g1 h1 H1 → Fin K ca W σ g1 H1 (k b h1) P → Q b H1) : rdO K ca W m σ H Q :=
  ⟨g, oa, env, h, er, sr, f.bind.imp fun v h1 g1 H1 e s q => hQ v H1 g1 h1 e s q⟩
theorem stepL {β : Type} {m : En → Hm → Rs (List PV)} {k : List PV → Hm → Rs β} {P : β → Hm → G → Hp → Prop} {Q : VK} (er : ER K g H env σ oa) (sr : SR K ca g h H) (f : Fin K ca W σ g H (bindR (m env h) k) P)
    (hQ : ∀ p H1 g1 h1 xs vs, Ext g H g1 H1 → SR K ca g1 h1 H1 → H p = none → H1 p = some (.lst vs) → g1.M p → p ∉ g1.φ → VRs K g1 H1 xs vs → Fin K ca W σ g1 H1 (k xs h1) P → Q (.ref p) H1) : rdL K ca W m σ H Q :=
  ⟨g, oa, env, h, er, sr, f.bind.imp fun v h1 g1 H1 e s q p vs a1 a2 a3 a4 a5 => hQ p H1 g1 h1 v vs e s a1 a2 a3 a4 a5 q⟩
theorem stepI {β : Type} {m : En → Hm → Rs (List PV)} {k : List PV → Hm → Rs β} {P : β → Hm → G → Hp → Prop} {R : L2.It → Hp → Prop} (er : ER K g H env σ oa) (sr : SR K ca g h H) (f : Fin K ca W σ g H (bindR (m env h) k) P)
    (hQ : ∀ J H1 g1 h1 xs, Ext g H g1 H1 → SR K ca g1 h1 H1 → Wk K ca g1 H1 J xs → Fin K ca W σ g1 H1 (k xs h1) P → R J H1) : rdI K ca W m σ H R :=
  ⟨g, oa, env, h, er, sr, f.bind.imp fun v h1 g1 H1 e s q J r => hQ J H1 g1 h1 v e s r q⟩
end

/-! ### judgements -/
section
variable (ca : CA) (X : Cx)
def JE (e : Expr) (m : En → Hm → Rs PV) : Prop := ∀ W, Takes X W → PE X e (rdE X.K ca W m)
def JA (e : List Expr) (m : En → Hm → Rs (List PV)) : Prop := ∀ W, Takes X W → PA X e (rdA X.K ca W m)
def JT (e : Expr) (m : En → Hm → Rs Bool) : Prop := ∀ W, Takes X W → PT X e (rdT X.K ca W m)
def JO (e : Option Expr) (m : En → Hm → Rs (Option Int)) : Prop := ∀ W, Takes X W → PO X e (rdO X.K ca W m)
def JL (e : Expr) (m : En → Hm → Rs (List PV)) : Prop := ∀ W, Takes X W → PE X e (rdL X.K ca W m)
def JI (tg e : Expr) (m : En → Hm → Rs (List PV)) : Prop := ∀ W, Takes X W → PI X tg e (rdI X.K ca W m)
end
theorem PE_imp {X : Cx} {e : Expr} {t t' : TE} (p : PE X e t) (f : ∀ σ H Q, t' σ H Q → t σ H Q) : PE X e t' := ⟨fun pins s σ H Q I w => p.run pins s σ H Q I (f σ H Q w)⟩
theorem PT_imp {X : Cx} {e : Expr} {t t' : TT} (p : PT X e t) (f : ∀ σ H Q, t' σ H Q → t σ H Q) : PT X e t' := ⟨fun pins s σ H Q I w => p.run pins s σ H Q I (f σ H Q w)⟩
theorem PW_imp {X : Cx} {e : Expr} {t t' : TT} (p : PW X e t) (f : ∀ σ H Q, t' σ H Q → t σ H Q) : PW X e t' := ⟨fun wh pins s σ H Q I w => p.run wh pins s σ H Q I (f σ H Q w)⟩
theorem PA_imp {X : Cx} {e : List Expr} {t t' : TA} (p : PA X e t) (f : ∀ σ H Q, t' σ H Q → t σ H Q) : PA X e t' := ⟨fun pos pins s σ H Q I w => p.run pos pins s σ H Q I (f σ H Q w)⟩
theorem PO_imp {X : Cx} {e : Option Expr} {t t' : TO} (p : PO X e t) (f : ∀ σ H Q, t' σ H Q → t σ H Q) : PO X e t' := ⟨fun pins s σ H Q I w => p.run pins s σ H Q I (f σ H Q w)⟩
theorem PI_imp {X : Cx} {tg e : Expr} {t t' : TI} (p : PI X tg e t) (f : ∀ σ H R, t' σ H R → t σ H R) : PI X tg e t' := ⟨fun pins s σ H Q I w => p.run pins s σ H Q I (f σ H Q w)⟩
theorem PS_imp {X : Cx} {e : Stmt} {t t' : TS} (p : PS X e t) (f : ∀ D σ H, t' D σ H → t D σ H) : PS X e t' := ⟨fun pins s σ H D I w => p.run pins s σ H D I (f D σ H w)⟩
theorem PSs_imp {X : Cx} {e : List Stmt} {t t' : TS} (p : PSs X e t) (f : ∀ D σ H, t' D σ H → t D σ H) : PSs X e t' := ⟨fun pins s σ H D I w => p.run pins s σ H D I (f D σ H w)⟩

/-! ### values -/
section
variable {K : PySem.W.Frag} {ca : CA} {g : G} {h : Hm} {H : Hp}
theorem asLst_rel {u : PV} {y : V} {xs : List PV} (s : SR K ca g h H) (r : VT K g H u y) (e : asLst h u = some xs) : ∃ a vs, y = .ref a ∧ H a = some (.lst vs) ∧ VRs K g H xs vs := by
  cases u <;> first | (cases e; done) | skip
  · cases e
    obtain ⟨a, vs, rfl, q, _, t⟩ := r
    exact ⟨a, vs, rfl, q, t⟩
  · cases e
    obtain ⟨a, vs, rfl, q, _, t⟩ := r
    exact ⟨a, vs, rfl, q, t⟩
  · rename_i n
    obtain ⟨a, q, rfl⟩ := r
    simp only [asLst] at e
    split at e
    · rename_i ys hy
      cases e
      obtain ⟨vs, h1, t⟩ := s.obj n a _ q hy
      exact ⟨a, vs, rfl, h1, t⟩
    · cases e
theorem asSeq_rel {u : PV} {y : V} {xs : List PV} (s : SR K ca g h H) (r : VT K g H u y) (e : asSeq h u = some xs) : ∃ a vs, y = .ref a ∧ (SqL K H a vs ∨ SqT K H a vs) ∧ VRs K g H xs vs := by
  have go : asLst h u = some xs → ∃ a vs, y = .ref a ∧ (SqL K H a vs ∨ SqT K H a vs) ∧ VRs K g H xs vs := fun e => by
    obtain ⟨a, vs, h1, h2, h3⟩ := asLst_rel s r e
    exact ⟨a, vs, h1, .inl (.inl (.inl h2)), h3⟩
  cases u with
  | tup xs =>
    cases e
    obtain ⟨a, vs, rfl, q, t⟩ := r
    exact ⟨a, vs, rfl, .inr q.sq, t⟩
  | _ => exact go e
theorem isEmpty_rel {xs : List PV} {vs : List V} (t : VRs K g H xs vs) : vs.isEmpty = xs.isEmpty := by
  have e := t.length
  cases xs <;> cases vs <;> simp at e ⊢
theorem VRk.length : ∀ {x : List (Key × PV)} {v : List (Key × V)}, VRk K g H x v → v.length = x.length
  | [], _, r => by cases r; rfl
  | _ :: _, _, r => by
    obtain ⟨y, ys, rfl, h, t⟩ := r
    rw [List.length_cons, List.length_cons, VRk.length t]
theorem truth_rel {u : PV} {y : V} {b : Bool} (s : SR K ca g h H) (r : VT K g H u y) (e : truth h u = some b) : TruV K y H b := by
  cases u with
  | non => cases e; cases r; rfl
  | bl c => cases e; cases r; rfl
  | int i => cases e; cases r; rfl
  | str z =>
    cases e
    obtain ⟨rfl, hl⟩ := r
    exact ⟨hl, rfl⟩
  | tup xs =>
    cases e
    obtain ⟨a, vs, rfl, q, t⟩ := r
    exact .inr (.inl ⟨vs, q.sq, by rw [isEmpty_rel t]⟩)
  | lst xs =>
    cases e
    obtain ⟨a, vs, rfl, q, _, t⟩ := r
    exact .inl ⟨vs, .inl (.inl q), by rw [isEmpty_rel t]⟩
  | bor xs =>
    cases e
    obtain ⟨a, vs, rfl, q, _, t⟩ := r
    exact .inl ⟨vs, .inl (.inl q), by rw [isEmpty_rel t]⟩
  | dct kvs =>
    cases e
    obtain ⟨a, vs, rfl, q, _, t⟩ := r
    refine .inr (.inr ⟨vs, q, ?_⟩)
    have e := t.length
    cases kvs <;> cases vs <;> simp at e ⊢
  | scr _ => cases e
  | ty _ => cases e
  | bod kvs =>
    cases e
    obtain ⟨a, vs, rfl, q, _, t⟩ := r
    refine .inr (.inr ⟨vs, q, ?_⟩)
    have e := t.length
    cases kvs <;> cases vs <;> simp at e ⊢
  | ref n =>
    obtain ⟨a, q, rfl⟩ := r
    simp only [truth] at e
    split at e
    · rename_i xs hx
      cases e
      obtain ⟨vs, h1, t⟩ := s.obj n a _ q hx
      exact .inl ⟨vs, .inl (.inl h1), by rw [isEmpty_rel t]⟩
    · rename_i kvs hx
      cases e
      obtain ⟨vs, h1, t⟩ := s.obj n a _ q hx
      refine .inr (.inr ⟨vs, h1, ?_⟩)
      have e := t.length
      cases kvs <;> cases vs <;> simp at e ⊢
    · cases e
end
end PG


set_option Elab.async false
set_option maxRecDepth 100000
set_option linter.unusedVariables false
/-! PgS2: operators, subscripts, built-ins, by values. -/
namespace PG
open PySem L2

section
variable {ca : CA} {X : Cx} {W : WX}
/-- what an operation on two values has still to give -/
def rB (K : PySem.W.Frag) (ca : CA) (W : WX) (f : Hm → PV → PV → Option PV) : St → R2 := fun σ x y H Q => ∃ g h u v, SR K ca g h H ∧ VT K g H u x ∧ VT K g H v y ∧
  Fin K ca W σ g H (liftR (f h u v) h) fun w _ g' H' => ∀ z, VT K g' H' w z → Q z H'
/-- .. with one value -/
def OpF (X : Cx) (ca : CA) (f : Value → Value → Sem Value) (o : Hm → PV → PV → Option PV) : Prop := ∀ W σ, OpR X f (rB X.K ca W o σ)

theorem je_bin {op : Operator} {o : Hm → PV → PV → Option PV} {a b : Expr} {ma mb : En → Hm → Rs PV} {pos : Pos} (ho : OpF X ca (binaryOp op) o) (ja : JE ca X a ma) (jb : JE ca X b mb) :
    JE ca X (.BinOp a op b pos) fun env h => bindR (ma env h) fun u h1 => bindR (mb env h1) fun v h2 => liftR (o h2 u v) h2 := by
  intro W tk
  refine ⟨fun pins s σ H Q I hw => ?_⟩
  refine (pe_op (ho W σ) (ja W tk) (jb W tk)).run pins s σ H Q I ?_
  obtain ⟨g, oa, env, h, er, sr, f⟩ := hw
  refine step er sr f fun x H1 g1 h1 u e1 sr1 v1 f1 => ?_
  refine step (er.ext sr.sane e1) sr1 f1 fun y H2 g2 h2 v e2 sr2 v2 f2 => ?_
  exact ⟨g2, h2, u, v, sr2, v1.ext sr1.sane e2, v2, f2⟩
theorem je_cmp {op : CmpOp} {o : Hm → PV → PV → Option Bool} {a b : Expr} {ma mb : En → Hm → Rs PV} {pos : Pos} (ho : OpF X ca (compareOp op) fun h u v => (o h u v).map .bl) (ja : JE ca X a ma) (jb : JE ca X b mb)
    (hm : behindInMarks op b = false) :
    JE ca X (.Compare a [op] [b] pos) fun env h => bindR (ma env h) fun u h1 => bindR (mb env h1) fun v h2 => liftR ((o h2 u v).map .bl) h2 := by
  intro W tk
  refine ⟨fun pins s σ H Q I hw => ?_⟩
  refine (pe_cmpR (ho W σ) (ja W tk) (jb W tk) hm).run pins s σ H Q I ?_
  obtain ⟨g, oa, env, h, er, sr, f⟩ := hw
  refine step er sr f fun x H1 g1 h1 u e1 sr1 v1 f1 => ?_
  refine step (er.ext sr.sane e1) sr1 f1 fun y H2 g2 h2 v e2 sr2 v2 f2 => ?_
  exact ⟨g2, h2, u, v, sr2, v1.ext sr1.sane e2, v2, f2⟩
/-- as a test -/
theorem jt_cmp {op : CmpOp} {o : Hm → PV → PV → Option Bool} {a b : Expr} {ma mb : En → Hm → Rs PV} {pos : Pos} (ho : OpF X ca (compareOp op) fun h u v => (o h u v).map .bl) (ja : JE ca X a ma) (jb : JE ca X b mb)
    (hm : behindInMarks op b = false) :
    JT ca X (.Compare a [op] [b] pos) fun env h => bindR (bindR (ma env h) fun u h1 => bindR (mb env h1) fun v h2 => liftR ((o h2 u v).map .bl) h2) fun v h1 => liftR (truth h1 v) h1 := by
  intro W tk
  refine ⟨fun pins s σ H Q I hw => ?_⟩
  refine (pt_cmpR (ho W σ) (ja W tk) (jb W tk) hm).run pins s σ H Q I ?_
  obtain ⟨g, oa, env, h, er, sr, f⟩ := hw
  have f := f.bind
  refine step er sr f fun x H1 g1 h1 u e1 sr1 v1 f1 => ?_
  refine step (er.ext sr.sane e1) sr1 f1 fun y H2 g2 h2 v e2 sr2 v2 f2 => ?_
  refine ⟨g2, h2, u, v, sr2, v1.ext sr1.sane e2, v2, ?_⟩
  show Fin X.K ca W σ g2 H2 (liftR ((o h2 u v).map PV.bl) h2) _
  obtain ⟨w, ew, f2⟩ := f2.lift
  rw [ew]
  obtain ⟨k, ek, rfl⟩ : ∃ k, o h2 u v = some k ∧ w = PV.bl k := by
    cases q : o h2 u v with
    | none => rw [q] at ew; cases ew
    | some k => rw [q] at ew; cases ew; exact ⟨k, rfl, rfl⟩
  intro g3 H3 e3 sr3 z hz
  cases hz
  have f3 : Fin X.K ca W σ g3 H3 (liftR (truth h2 (PV.bl k)) h2) fun v _ _ H' => Q v H' := f2 g3 H3 e3 sr3
  exact ⟨k, rfl, f3 g3 H3 (Ext.refl _ _) sr3⟩

/-! ### a chain of two comparisons -/
theorem chn_read {K : PySem.W.Frag} {o o' : Hm → PV → PV → Option Bool} {ma mb mc : En → Hm → Rs PV} (σ : St) (H : Hp) (Q : VK)
    (hw : rdE K ca W (fun env h => bindR (ma env h) fun u h1 => bindR (mb env h1) fun v h2 => match o h2 u v with
      | none => none
      | some false => okR (.bl false) h2
      | some true => bindR (mc env h2) fun w h3 => liftR ((o' h3 v w).map .bl) h3) σ H Q) :
    tChain (rB K ca W (fun h u v => (o h u v).map .bl) σ) (rB K ca W (fun h u v => (o' h u v).map .bl) σ) (rdE K ca W ma) (rdE K ca W mb) (rdE K ca W mc) σ H Q := by
  obtain ⟨g, oa, env, h, er, sr, f⟩ := hw
  refine step er sr f fun x H1 g1 h1 u e1 sr1 v1 f1 => ?_
  refine step (er.ext sr.sane e1) sr1 f1 fun y H2 g2 h2 v e2 sr2 v2 f2 => ?_
  refine ⟨g2, h2, u, v, sr2, v1.ext sr1.sane e2, v2, ?_⟩
  show Fin K ca W σ g2 H2 (liftR ((o h2 u v).map PV.bl) h2) _
  cases q : o h2 u v with
  | none => rw [q] at f2; exact f2.elim
  | some k =>
    intro g3 H3 e3 sr3 z hz
    cases hz
    refine ⟨k, rfl, ?_⟩
    rw [q] at f2
    cases k with
    | false => exact f2 g3 H3 e3 sr3 _ rfl
    | true =>
      have f2' : Fin K ca W σ g2 H2 (bindR (okR () h2) fun _ h2 => bindR (mc env h2) fun w h3 => liftR ((o' h3 v w).map PV.bl) h3) fun w _ g' H' => ∀ z, VT K g' H' w z → Q z H' := f2
      have f3 : Fin K ca W σ g3 H3 (bindR (mc env h2) fun w h3 => liftR ((o' h3 v w).map .bl) h3) fun w _ g' H' => ∀ z, VT K g' H' w z → Q z H' := by
        exact f2'.bind g3 H3 e3 sr3
      refine step ((er.ext sr.sane e1).ext sr1.sane (e2.trans e3)) sr3 f3 fun w H4 g4 h4 w' e4 sr4 v4 f4 => ?_
      exact ⟨g4, h4, v, w', sr4, v2.ext sr2.sane (e3.trans e4), v4, f4⟩
theorem je_chn {op op' : CmpOp} {o o' : Hm → PV → PV → Option Bool} {a b c : Expr} {ma mb mc : En → Hm → Rs PV} {pos : Pos} (ho : OpF X ca (compareOp op) fun h u v => (o h u v).map .bl) (ho' : OpF X ca (compareOp op') fun h u v => (o' h u v).map .bl)
    (ja : JE ca X a ma) (jb : JE ca X b mb) (jc : JE ca X c mc) (hm : lastMarks [op, op'] [b, c] = false) :
    JE ca X (.Compare a [op, op'] [b, c] pos) fun env h => bindR (ma env h) fun u h1 => bindR (mb env h1) fun v h2 => match o h2 u v with
      | none => none
      | some false => okR (.bl false) h2
      | some true => bindR (mc env h2) fun w h3 => liftR ((o' h3 v w).map .bl) h3 := by
  intro W tk
  refine ⟨fun pins s σ H Q I hw => ?_⟩
  exact (pe_chain (ho W σ) (ho' W σ) (ja W tk) (jb W tk) (jc W tk) hm).run pins s σ H Q I (chn_read σ H Q hw)
/-- as a test, where the value is True or False -/
theorem rdT_bl {K : PySem.W.Frag} {m : En → Hm → Rs PV} {σ : St} {H : Hp} {Q : Bool → Hp → Prop} (hb : ∀ env h v h', m env h = some (.ok v, h') → ∃ k, v = .bl k) (hw : rdT K ca W (fun env h => bindR (m env h) fun v h1 => liftR (truth h1 v) h1) σ H Q) :
    rdE K ca W m σ H fun x H' => ∃ k, x = .bl k ∧ Q k H' := by
  obtain ⟨g, oa, env, h, er, sr, f⟩ := hw
  refine ⟨g, oa, env, h, er, sr, ?_⟩
  rcases hm : m env h with _ | ⟨v | x, h1⟩
  · simp only [hm] at f; exact f.elim
  · simp only [hm] at f
    obtain ⟨k, rfl⟩ := hb env h v h1 hm
    intro g' H' e s y r
    cases r
    exact ⟨k, rfl, f g' H' e s⟩
  · simp only [hm] at f; exact f
theorem jt_chn {op op' : CmpOp} {o o' : Hm → PV → PV → Option Bool} {a b c : Expr} {ma mb mc : En → Hm → Rs PV} {pos : Pos} (ho : OpF X ca (compareOp op) fun h u v => (o h u v).map .bl) (ho' : OpF X ca (compareOp op') fun h u v => (o' h u v).map .bl)
    (ja : JE ca X a ma) (jb : JE ca X b mb) (jc : JE ca X c mc) (hm : lastMarks [op, op'] [b, c] = false) :
    JT ca X (.Compare a [op, op'] [b, c] pos) fun env h => bindR (bindR (ma env h) fun u h1 => bindR (mb env h1) fun v h2 => match o h2 u v with
      | none => none
      | some false => okR (.bl false) h2
      | some true => bindR (mc env h2) fun w h3 => liftR ((o' h3 v w).map .bl) h3) fun v h1 => liftR (truth h1 v) h1 := by
  intro W tk
  refine ⟨fun pins s σ H Q I hw => ?_⟩
  refine (pt_chain (ho W σ) (ho' W σ) (ja W tk) (jb W tk) (jc W tk) hm).run pins s σ H Q I ?_
  refine chn_read _ _ _ (rdT_bl (fun env h v h' e => ?_) hw)
  rcases h1 : ma env h with _ | ⟨u | x, h1'⟩
  · rw [h1] at e; cases e
  · rw [h1] at e
    have e : bindR (mb env h1') _ = some (Ex.ok v, h') := e
    rcases h2 : mb env h1' with _ | ⟨w | x, h2'⟩
    · rw [h2] at e; cases e
    · rw [h2] at e
      have e : (match o h2' u w with
      | none => none
      | some false => okR (PV.bl false) h2'
      | some true => bindR (mc env h2') fun w' h3 => liftR ((o' h3 w w').map .bl) h3) = some (Ex.ok v, h') := e
      split at e
      · cases e
      · cases e; exact ⟨_, rfl⟩
      · rcases h3 : mc env h2' with _ | ⟨z | x, h3'⟩
        · rw [h3] at e; cases e
        · rw [h3] at e
          have e : liftR ((o' h3' w z).map PV.bl) h3' = some (Ex.ok v, h') := e
          cases q : o' h3' w z with
          | none => rw [q] at e; cases e
          | some k => rw [q] at e; cases e; exact ⟨_, rfl⟩
        · rw [h3] at e; cases e
    · rw [h2] at e; cases e
  · rw [h1] at e; cases e

/-! ### the operators -/
theorem finB {o : Option PV} {K : PySem.W.Frag} {σ : St} {g : G} {H : Hp} {h : Hm} {Q : VK} (f : Fin K ca W σ g H (liftR o h) fun w _ g' H' => ∀ z, VT K g' H' w z → Q z H') :
    ∃ w, o = some w ∧ ∀ g' H', Ext g H g' H' → SR K ca g' h H' → ∀ z, VT K g' H' w z → Q z H' := by
  obtain ⟨w, e, q⟩ := f.lift
  exact ⟨w, e, q⟩
/-- a new list, never to change -/
theorem new_list {K : PySem.W.Frag} {g : G} {H : Hp} {h : Hm} {Q : VK} {xs : List PV} {vs : List V} {p : Addr} (sr : SR K ca g h H) (t : VRs K g H xs vs) (hp : H p = none) (q : ∀ g' H', Ext g H g' H' → SR K ca g' h H' → ∀ z, VT K g' H' (.lst xs) z → Q z H') : Q (.ref p) (upd H p (.lst vs)) :=
  q (g.fix p) _ (Ext.fix hp) (sr.fix hp) _ ⟨p, vs, rfl, upd_same, fun m => m.2 rfl, t.ext sr.sane (Ext.fix hp)⟩
theorem new_tup {K : PySem.W.Frag} {g : G} {H : Hp} {h : Hm} {Q : VK} {xs : List PV} {vs : List V} {p : Addr} (sr : SR K ca g h H) (t : VRs K g H xs vs) (hp : H p = none) (q : ∀ g' H', Ext g H g' H' → SR K ca g' h H' → ∀ z, VT K g' H' (.tup xs) z → Q z H') : Q (.ref p) (upd H p (.tup vs)) :=
  q (g.fix p) _ (Ext.fix hp) (sr.fix hp) _ ⟨p, vs, rfl, .inl upd_same, t.ext sr.sane (Ext.fix hp)⟩

theorem fit_some {α : Type} {n : Nat} {a b : α} (h : fit n a = some b) : n ≤ sizeLine ∧ a = b := by
  unfold fit at h
  split at h
  · cases h; exact ⟨by assumption, rfl⟩
  · cases h
theorem str_len_append (a b : Str) : (a ++ b).length = a.length + b.length := by
  show (a.cps ++ b.cps).size = _
  rw [Array.size_append]; rfl

theorem opf_add : OpF X ca (binaryOp .Add) fun h u v => bOp h .add u v := by
  intro W σ0 pins s σ H x y vv uu Q I rx ry ⟨g, h, u, v, sr, r1, r2, f⟩
  obtain ⟨w, ew, q⟩ := finB f
  have ew : bAdd h u v = some w := ew
  unfold bAdd at ew
  split at ew
  · cases ew; cases r1; cases r2
    exact op_add pins s σ H _ _ _ _ Q I rx ry ⟨_, _, rfl, rfl, q g H (Ext.refl _ _) sr _ rfl⟩
  · obtain ⟨hz, rfl⟩ := fit_some ew
    obtain ⟨rfl, l1⟩ := r1
    obtain ⟨rfl, l2⟩ := r2
    exact op_add_str pins s σ H _ _ _ _ Q I rx ry ⟨_, _, rfl, rfl, hz, q g H (Ext.refl _ _) sr _ ⟨rfl, by rw [str_len_append]; exact hz⟩⟩
  · split at ew
    · rename_i xs ys h1 h2
      obtain ⟨hz, rfl⟩ := fit_some ew
      obtain ⟨a, vs, rfl, l1, t1⟩ := asLst_rel sr r1 h1
      obtain ⟨b, ws, rfl, l2, t2⟩ := asLst_rel sr r2 h2
      exact op_cat pins s σ H _ _ _ _ Q I rx ry ⟨a, b, vs, ws, rfl, rfl, l1, l2, by rw [t1.length, t2.length]; exact hz, fun p hp => new_list sr (t1.append t2) hp q⟩
    · cases ew

theorem opf_sub : OpF X ca (binaryOp .Sub) fun h u v => bOp h .sub u v := by
  intro W σ0 pins s σ H x y vv uu Q I rx ry ⟨g, h, u, v, sr, r1, r2, f⟩
  obtain ⟨w, ew, q⟩ := finB f
  cases u <;> first | (cases ew; done) | skip
  cases v <;> first | (cases ew; done) | skip
  cases ew; cases r1; cases r2
  exact op_sub pins s σ H _ _ _ _ Q I rx ry ⟨_, _, rfl, rfl, q g H (Ext.refl _ _) sr _ rfl⟩
theorem opf_fdiv : OpF X ca (binaryOp .FloorDiv) fun h u v => bOp h .fdiv u v := by
  intro W σ0 pins s σ H x y vv uu Q I rx ry ⟨g, h, u, v, sr, r1, r2, f⟩
  obtain ⟨w, ew, q⟩ := finB f
  cases u <;> first | (cases ew; done) | skip
  cases v <;> first | (cases ew; done) | skip
  rename_i i j
  have ew : (if 0 < j ∧ j < 1073741824 then some (PV.int (i / j)) else none) = some w := ew
  split at ew
  · rename_i hc
    cases ew; cases r1; cases r2
    exact op_fdiv pins s σ H _ _ _ _ Q I rx ry ⟨_, _, rfl, rfl, hc, q g H (Ext.refl _ _) sr _ rfl⟩
  · cases ew
theorem opf_mod : OpF X ca (binaryOp .Mod) fun h u v => bOp h .mod u v := by
  intro W σ0 pins s σ H x y vv uu Q I rx ry ⟨g, h, u, v, sr, r1, r2, f⟩
  obtain ⟨w, ew, q⟩ := finB f
  cases u <;> first | (cases ew; done) | skip
  cases v <;> first | (cases ew; done) | skip
  rename_i i j
  have ew : (if 0 < j then some (PV.int (i % j)) else none) = some w := ew
  split at ew
  · rename_i hc
    cases ew; cases r1; cases r2
    exact op_mod pins s σ H _ _ _ _ Q I rx ry ⟨_, _, rfl, rfl, hc, q g H (Ext.refl _ _) sr _ rfl⟩
  · cases ew
theorem opf_pow : OpF X ca (binaryOp .Pow) fun h u v => bOp h .pow u v := by
  intro W σ0 pins s σ H x y vv uu Q I rx ry ⟨g, h, u, v, sr, r1, r2, f⟩
  obtain ⟨w, ew, q⟩ := finB f
  cases u <;> first | (cases ew; done) | skip
  cases v <;> first | (cases ew; done) | skip
  rename_i i j
  have ew : (if 0 ≤ j ∧ j ≤ 1000000 ∧ i.natAbs < 2 ^ 64 then some (PV.int (i ^ j.toNat)) else none) = some w := ew
  split at ew
  · rename_i hc
    cases ew; cases r1; cases r2
    exact op_pow pins s σ H _ _ _ _ Q I rx ry ⟨_, _, rfl, rfl, hc, q g H (Ext.refl _ _) sr _ rfl⟩
  · cases ew

/-! ### comparisons -/
theorem finC {o : Option Bool} {K : PySem.W.Frag} {σ : St} {g : G} {H : Hp} {h : Hm} {Q : VK} (sr : SR K ca g h H) (f : Fin K ca W σ g H (liftR (o.map PV.bl) h) fun w _ g' H' => ∀ z, VT K g' H' w z → Q z H') :
    ∃ k, o = some k ∧ Q (.bl k) H := by
  obtain ⟨w, e, q⟩ := f.lift
  cases o with
  | none => cases e
  | some k => cases e; exact ⟨k, rfl, q g H (Ext.refl _ _) sr _ rfl⟩
theorem opf_lt : OpF X ca (compareOp .Lt) fun h u v => (cOp h .lt u v).map .bl := by
  intro W σ0 pins s σ H x y vv uu Q I rx ry ⟨g, h, u, v, sr, r1, r2, f⟩
  obtain ⟨k, ek, q⟩ := finC sr f
  cases u <;> first | (cases ek; done) | skip
  all_goals (cases v <;> first | (cases ek; done) | skip)
  · cases ek; cases r1; cases r2
    exact op_lt pins s σ H _ _ _ _ Q I rx ry ⟨_, _, rfl, rfl, q⟩
  · cases ek; obtain ⟨rfl, l1⟩ := r1; obtain ⟨rfl, l2⟩ := r2
    exact op_lt_str pins s σ H _ _ _ _ Q I rx ry ⟨_, _, rfl, rfl, q⟩
theorem opf_le : OpF X ca (compareOp .LtE) fun h u v => (cOp h .le u v).map .bl := by
  intro W σ0 pins s σ H x y vv uu Q I rx ry ⟨g, h, u, v, sr, r1, r2, f⟩
  obtain ⟨k, ek, q⟩ := finC sr f
  cases u <;> first | (cases ek; done) | skip
  all_goals (cases v <;> first | (cases ek; done) | skip)
  · cases ek; cases r1; cases r2
    exact op_le pins s σ H _ _ _ _ Q I rx ry ⟨_, _, rfl, rfl, q⟩
  · cases ek; obtain ⟨rfl, l1⟩ := r1; obtain ⟨rfl, l2⟩ := r2
    refine op_le_str pins s σ H _ _ _ _ Q I rx ry ⟨_, _, rfl, rfl, ?_⟩
    exact q
theorem opf_gt : OpF X ca (compareOp .Gt) fun h u v => (cOp h .gt u v).map .bl := by
  intro W σ0 pins s σ H x y vv uu Q I rx ry ⟨g, h, u, v, sr, r1, r2, f⟩
  obtain ⟨k, ek, q⟩ := finC sr f
  cases u <;> first | (cases ek; done) | skip
  all_goals (cases v <;> first | (cases ek; done) | skip)
  cases ek; cases r1; cases r2
  exact op_gt pins s σ H _ _ _ _ Q I rx ry ⟨_, _, rfl, rfl, q⟩
theorem opf_ge : OpF X ca (compareOp .GtE) fun h u v => (cOp h .ge u v).map .bl := by
  intro W σ0 pins s σ H x y vv uu Q I rx ry ⟨g, h, u, v, sr, r1, r2, f⟩
  obtain ⟨k, ek, q⟩ := finC sr f
  cases u <;> first | (cases ek; done) | skip
  all_goals (cases v <;> first | (cases ek; done) | skip)
  cases ek; cases r1; cases r2
  exact op_ge pins s σ H _ _ _ _ Q I rx ry ⟨_, _, rfl, rfl, q⟩
theorem cEq_rel {K : PySem.W.Frag} {g : G} {H : Hp} {u v : PV} {x y : V} {k : Bool} (r1 : VT K g H u x) (r2 : VT K g H v y) (e : cEq u v = some k) : scal x y = true ∧ decide (x = y) = k := by
  cases u <;> first | (cases e; done) | skip
  all_goals (cases v <;> first | (cases e; done) | skip)
  · cases e; cases r1; cases r2; exact ⟨rfl, rfl⟩
  · cases e; cases r1; cases r2; exact ⟨rfl, by simp⟩
  · cases e; cases r1; cases r2; exact ⟨rfl, by simp⟩
  · cases e; obtain ⟨rfl, _⟩ := r1; obtain ⟨rfl, _⟩ := r2; exact ⟨rfl, by simp⟩
theorem opf_eq : OpF X ca (compareOp .Eq) fun h u v => (cOp h .eq u v).map .bl := by
  intro W σ0 pins s σ H x y vv uu Q I rx ry ⟨g, h, u, v, sr, r1, r2, f⟩
  obtain ⟨k, ek, q⟩ := finC sr f
  obtain ⟨e1, e2⟩ := cEq_rel r1 r2 (show cEq u v = some k from ek)
  exact op_eq pins s σ H _ _ _ _ Q I rx ry ⟨e1, by rw [e2]; exact q⟩
theorem opf_ne : OpF X ca (compareOp .NotEq) fun h u v => (cOp h .ne u v).map .bl := by
  intro W σ0 pins s σ H x y vv uu Q I rx ry ⟨g, h, u, v, sr, r1, r2, f⟩
  obtain ⟨k, ek, q⟩ := finC sr f
  have ek : (cEq u v).map (!·) = some k := ek
  cases hc : cEq u v with
  | none => rw [hc] at ek; cases ek
  | some c =>
    rw [hc] at ek; cases ek
    obtain ⟨e1, e2⟩ := cEq_rel r1 r2 hc
    exact op_ne pins s σ H _ _ _ _ Q I rx ry ⟨e1, by rw [e2]; exact q⟩
theorem isNon_rel {K : PySem.W.Frag} {g : G} {H : Hp} {u : PV} {x : V} (r : VT K g H u x) : decide (x = .non) = (match u with
    | .non => true
    | _ => false) := by
  cases u with
  | non => cases r; rfl
  | bl _ => cases r; rfl
  | int _ => cases r; rfl
  | str _ => obtain ⟨rfl, _⟩ := r; rfl
  | tup _ => obtain ⟨a, _, rfl, _⟩ := r; rfl
  | lst _ => obtain ⟨a, _, rfl, _⟩ := r; rfl
  | bor _ => obtain ⟨a, _, rfl, _⟩ := r; rfl
  | dct _ => obtain ⟨a, _, rfl, _⟩ := r; rfl
  | bod _ => obtain ⟨a, _, rfl, _⟩ := r; rfl
  | ref _ => obtain ⟨a, _, rfl⟩ := r; rfl
  | scr _ => obtain ⟨a, _, rfl, _⟩ := r; rfl
  | ty _ => cases r; rfl
theorem opf_is : OpF X ca (compareOp .Is) fun h u v => (cOp h .is u v).map .bl := by
  intro W σ0 pins s σ H x y vv uu Q I rx ry ⟨g, h, u, v, sr, r1, r2, f⟩
  obtain ⟨k, ek, q⟩ := finC sr f
  cases v <;> first | (cases u <;> cases ek; done) | skip
  cases r2
  refine op_isN pins s σ H _ _ _ _ Q I rx ry ⟨rfl, ?_⟩
  rw [isNon_rel r1]
  cases u <;> cases ek <;> exact q
theorem opf_isnot : OpF X ca (compareOp .IsNot) fun h u v => (cOp h .isnot u v).map .bl := by
  intro W σ0 pins s σ H x y vv uu Q I rx ry ⟨g, h, u, v, sr, r1, r2, f⟩
  obtain ⟨k, ek, q⟩ := finC sr f
  cases v <;> first | (cases u <;> cases ek; done) | skip
  cases r2
  refine op_notN pins s σ H _ _ _ _ Q I rx ry ⟨rfl, ?_⟩
  rw [isNon_rel r1]
  cases u <;> cases ek <;> exact q

/-! ### products -/
theorem strRep_len (s : Str) (n : Nat) : (strRep s n).length = s.length * n := by
  show ((List.replicate n s.cps.toList).flatten).toArray.size = _
  rw [List.size_toArray, List.length_flatten, List.map_replicate, List.sum_replicate_nat, Array.length_toList, Nat.mul_comm]
  rfl
theorem foldl_app (n : Nat) (c : Array Nat) (a : Array Nat) : ((List.replicate n c).foldl (· ++ ·) a).toList = a.toList ++ (List.replicate n c.toList).flatten := by
  induction n generalizing a with
  | zero => simp
  | succ n ih => rw [List.replicate_succ, List.foldl_cons, ih, List.replicate_succ, List.flatten_cons, Array.toList_append, List.append_assoc]
theorem rep_eq (s : Str) (n : Nat) : (⟨(List.replicate n s.cps).foldl (· ++ ·) #[]⟩ : Str) = strRep s n := by
  unfold strRep
  congr 1
  apply Array.toList_inj.mp
  rw [foldl_app]
  rfl
theorem op_mul_str : OpR X (binaryOp .Mult) (fun x y H Q => ∃ z i, x = .str z ∧ y = .int i ∧ z.length ≤ sizeLine ∧ -(2 ^ 63) ≤ i ∧ i < 2 ^ 63 ∧ z.length * i.toNat ≤ sizeLine ∧ Q (.str (strRep z i.toNat)) H) := by
  intro pins s σ H x y v u Q I rx ry h
  obtain ⟨z, i, rfl, rfl, hz, h1, h2, h3, q⟩ := h
  obtain ⟨t, rfl⟩ := rx
  obtain ⟨t', rfl⟩ := ry
  have hsl : (sizeLine : Nat) = 16777216 := by decide
  refine PySem.P.mul_str ?_ (fun h4 h5 => ?_) (fun h4 h5 => ?_) ?_
  · rw [decide_eq_false (by omega), decide_eq_false (by omega)]; rfl
  · have hi : 0 < i := by omega
    have e : (i.toNat : Int) = i := Int.toNat_of_nonneg (by omega)
    have hk : ((z.length * i.toNat : Nat) : Int) ≤ 16777216 := by omega
    rw [Int.natCast_mul, e] at hk
    have : (z.length : Int) ≤ (2 ^ 63 - 1) / i := by
      rw [Int.le_ediv_iff_mul_le hi]
      exact Int.le_trans hk (by decide)
    omega
  · unfold Builtin.Str.tooLong
    exact decide_eq_false (by omega)
  · by_cases h4 : i < 1
    · rw [if_pos h4]
      have e0 : i.toNat = 0 := by omega
      refine ⟨by decide, .str _, H, I.tok _, ⟨_, rfl⟩, ?_⟩
      rw [e0] at q
      exact q
    · rw [if_neg h4]
      by_cases h5 : (i == 1 || z.length == 0) = true
      · rw [if_pos h5]
        have e1 : strRep z i.toNat = z := by
          rw [← rep_eq]
          have hz' : ∀ w : Str, w = z ↔ w.cps = z.cps := fun w => ⟨fun e => by rw [e], fun e => by cases w; cases z; cases e; rfl⟩
          rw [hz']
          apply Array.toList_inj.mp
          rw [foldl_app]
          rcases Bool.or_eq_true_iff.mp h5 with h6 | h6
          · have e : i = 1 := by simpa using h6
            subst e
            simp
          · have e : z.cps.size = 0 := by simpa [Str.length] using h6
            have e' : z.cps = #[] := Array.eq_empty_of_size_eq_zero e
            rw [e']; simp
        rw [e1] at q
        exact ⟨.str _, H, I, ⟨_, rfl⟩, q⟩
      · rw [if_neg h5]
        refine ⟨?_, .str _, H, I.tok _, ⟨_, rfl⟩, ?_⟩
        · rw [rep_eq, strRep_len]; exact h3
        · rw [rep_eq]; exact q
end
end PG


set_option Elab.async false
set_option maxRecDepth 100000
set_option linter.unusedVariables false
/-! PgS3: products, subscripts, slices, built-ins, by values. -/
namespace PG
open PySem L2

section
variable {ca : CA} {X : Cx} {W : WX}
theorem opf_mul : OpF X ca (binaryOp .Mult) fun h u v => bOp h .mul u v := by
  intro W σ0 pins s σ H x y vv uu Q I rx ry ⟨g, h, u, v, sr, r1, r2, f⟩
  obtain ⟨w, ew, q⟩ := finB f
  cases u <;> first | (cases ew; done) | skip
  · cases v <;> first | (cases ew; done) | skip
    rename_i i j
    have ew : (if mulOk i j = true then some (PV.int (i * j)) else none) = some w := ew
    split at ew
    · rename_i hc
      cases ew; cases r1; cases r2
      have hc2 : (-(2 ^ 64) < i ∧ i < 2 ^ 64) ∨ (-(2 ^ 64) < j ∧ j < 2 ^ 64) := of_decide_eq_true hc
      exact op_mul pins s σ H _ _ _ _ Q I rx ry ⟨_, _, rfl, rfl, hc2, q g H (Ext.refl _ _) sr _ rfl⟩
    · cases ew
  · cases v <;> first | (cases ew; done) | skip
    rename_i z n
    have ew : (if -(2 ^ 63) ≤ n ∧ n < 2 ^ 63 then fit (z.length * n.toNat) (PV.str (strRep z n.toNat)) else none) = some w := ew
    split at ew
    · rename_i hc
      obtain ⟨hz, rfl⟩ := fit_some ew
      obtain ⟨rfl, l1⟩ := r1
      cases r2
      exact op_mul_str pins s σ H _ _ _ _ Q I rx ry ⟨_, _, rfl, rfl, l1, hc.1, hc.2, hz, q g H (Ext.refl _ _) sr _ ⟨rfl, by rw [strRep_len]; exact hz⟩⟩
    · cases ew
  · cases v <;> first | (cases ew; done) | skip
    rename_i xs n
    have ew : (if -(2 ^ 63) ≤ n ∧ n < 2 ^ 63 then fit (xs.length * n.toNat) (PV.lst (List.replicate n.toNat xs).flatten) else none) = some w := ew
    split at ew
    · rename_i hc
      obtain ⟨hz, rfl⟩ := fit_some ew
      obtain ⟨a, vs, rfl, l1, _, t1⟩ := r1
      cases r2
      refine op_rep pins s σ H _ _ _ _ Q I rx ry ⟨a, n, vs, rfl, rfl, l1, hc.1, hc.2, by rw [t1.length]; exact hz, fun p hp => new_list sr ?_ hp q⟩
      generalize n.toNat = m
      induction m with
      | zero => exact rfl
      | succ m ih => rw [List.replicate_succ, List.replicate_succ, List.flatten_cons, List.flatten_cons]; exact t1.append ih
    · cases ew

/-! ### subscripts -/
theorem atI_rel {K : PySem.W.Frag} {g : G} {H : Hp} {xs : List PV} {vs : List V} {i : Int} {a : PV} (t : VRs K g H xs vs) (e : atI xs i = some a) : ∃ b, atI vs i = some b ∧ VR K g H a b := by
  unfold atI at e ⊢
  rw [t.length]
  cases q : ixN xs.length i with
  | none => rw [q] at e; cases e
  | some j =>
    rw [q] at e
    exact t.get e
theorem ixf (σ0 : St) : IxR X (rB X.K ca W cIdx σ0) := by
  intro value slice pins s σ H x y vv uu Q I rx ry ⟨g, h, u, v, sr, r1, r2, f⟩ hs
  obtain ⟨w, ew, q⟩ := finB f
  unfold cIdx at ew
  split at ew
  · rename_i i
    cases r2
    split at ew
    · rename_i z
      obtain ⟨rfl, l1⟩ := r1
      cases hc : atI z.cps.toList i with
      | none => rw [hc] at ew; cases ew
      | some c =>
        rw [hc] at ew; cases ew
        exact ix_str value slice pins s σ H _ _ _ _ Q I rx ry ⟨z, i, c, rfl, rfl, l1, hc, q g H (Ext.refl _ _) sr _ ⟨rfl, by show (1 : Nat) ≤ sizeLine; decide⟩⟩ hs
    · split at ew
      · rename_i xs hx
        obtain ⟨a, vs, rfl, hq, t⟩ := asSeq_rel sr r1 hx
        obtain ⟨b, hb, rb⟩ := atI_rel t ew
        have fin := q g H (Ext.refl _ _) sr _ rb.vt
        rcases hq with hq | hq
        · exact ix_list value slice pins s σ H _ _ _ _ Q I rx ry ⟨a, vs, i, b, rfl, rfl, hq, hb, fin⟩ hs
        · exact ix_tup value slice pins s σ H _ _ _ _ Q I rx ry ⟨a, vs, i, b, rfl, rfl, hq, hb, fin⟩ hs
      · cases ew
  · cases ew
theorem je_idx {a b : Expr} {ma mb : En → Hm → Rs PV} {pos : Pos} (ja : JE ca X a ma) (jb : JE ca X b mb) (hs : PlainIx b) :
    JE ca X (.Subscript a b pos) fun env h => bindR (ma env h) fun u h1 => bindR (mb env h1) fun v h2 => liftR (cIdx h2 u v) h2 := by
  intro W tk
  refine ⟨fun pins s σ H Q I hw => ?_⟩
  refine (pe_ix (ixf (ca := ca) (W := W) σ) (ja W tk) (jb W tk) hs).run pins s σ H Q I ?_
  obtain ⟨g, oa, env, h, er, sr, f⟩ := hw
  refine step er sr f fun x H1 g1 h1 u e1 sr1 v1 f1 => ?_
  refine step (er.ext sr.sane e1) sr1 f1 fun y H2 g2 h2 v e2 sr2 v2 f2 => ?_
  exact ⟨g2, h2, u, v, sr2, v1.ext sr1.sane e2, v2, f2⟩

/-! ### slices -/
def rS (K : PySem.W.Frag) (ca : CA) (W : WX) (σ : St) : V → Option Int → Option Int → Hp → VK → Prop := fun x lo hi H Q => ∃ g h u, SR K ca g h H ∧ VT K g H u x ∧
  Fin K ca W σ g H (liftR (cSlc h u lo hi) h) fun w _ g' H' => ∀ z, VT K g' H' w z → Q z H'
theorem VRs.cut {K : PySem.W.Frag} {g : G} {H : Hp} {xs : List PV} {vs : List V} (t : VRs K g H xs vs) (lo hi : Option Int) : VRs K g H (cutP xs lo hi) (cutV vs lo hi) := by
  unfold cutP cutV
  rw [t.length]
  exact (t.drop _).take _
theorem cutP_whole {xs : List PV} {lo hi : Option Int} (h : HT.sIx xs.length 0 lo = 0 ∧ HT.sIx xs.length xs.length hi = xs.length) : cutP xs lo hi = xs := by
  unfold cutP
  rw [h.1, h.2]
  simp
theorem cutSt_len (z : Str) (lo hi : Option Int) : (cutSt z lo hi).length ≤ z.length := by
  show (List.toArray _).size ≤ z.cps.size
  rw [List.size_toArray, List.length_take, List.length_drop, Array.length_toList]
  omega
theorem slf (σ0 : St) : L2.SlR X (rS X.K ca W σ0) := by
  intro pins s σ H x vv vl vu lo hi sl Q I rx hs pl pu ⟨g, h, u, sr, r1, f⟩
  obtain ⟨w, ew, q⟩ := finB f
  have here := fun z hz => q g H (Ext.refl _ _) sr z hz
  have lst : ∀ xs, asLst h u = some xs → w = .lst (cutP xs lo hi) → ∃ T id, typeLookup (.type T) "__getitem__" = pure (some (.builtin id)) ∧ s.TypeIs vv T ∧ wpAny (model X.prog X.w) X.A (getItem vv (.ref sl)) (EP X pins σ Q) X.xe s := fun xs hx hw => by
    obtain ⟨a, vs, rfl, hq, t⟩ := asLst_rel sr r1 hx
    subst hw
    exact sl_list pins s σ H _ _ vl vu lo hi sl Q I rx hs pl pu ⟨a, vs, rfl, .inl (.inl hq), fun p hp => new_list sr (t.cut lo hi) hp q⟩
  cases u with
  | str z =>
    cases ew
    obtain ⟨rfl, l1⟩ := r1
    refine sl_str pins s σ H _ _ vl vu lo hi sl Q I rx hs pl pu ⟨z, rfl, l1, ?_⟩
    have e : cutS z lo hi = cutSt z lo hi := by
      unfold cutS cutSt
      rfl
    rw [e]
    exact here _ ⟨rfl, Nat.le_trans (cutSt_len z lo hi) l1⟩
  | tup xs =>
    cases ew
    obtain ⟨a, vs, rfl, hq, t⟩ := id r1
    refine sl_tupA pins s σ H _ _ vl vu lo hi sl Q I rx hs pl pu ⟨a, vs, rfl, hq.sq, fun hw => ?_, fun hw p hp => new_tup sr (t.cut lo hi) hp q⟩
    rw [t.length] at hw
    rw [cutP_whole hw] at here
    exact here _ r1
  | scr xs =>
    cases ew
    obtain ⟨a, vs, rfl, hq, t⟩ := r1
    exact sl_list pins s σ H _ _ vl vu lo hi sl Q I rx hs pl pu ⟨a, vs, rfl, hq.sql, fun p hp => new_list sr (t.cut lo hi) hp q⟩
  | lst xs => cases ew; exact lst xs rfl rfl
  | bor xs => cases ew; exact lst xs rfl rfl
  | ref n =>
    have ew : (match asLst h (.ref n) with
      | some xs => some (PV.lst (cutP xs lo hi))
      | none => none) = some w := ew
    split at ew
    · rename_i xs hx
      cases ew
      exact lst xs hx rfl
    · cases ew
  | _ => cases ew
theorem je_slc {a : Expr} {lo hi : Option Expr} {ma : En → Hm → Rs PV} {ml mh : En → Hm → Rs (Option Int)} {pos p2 : Pos} (ja : JE ca X a ma) (jl : JO ca X lo ml) (jh : JO ca X hi mh) :
    JE ca X (.Subscript a (.Slice lo hi none p2) pos) fun env h => bindR (ma env h) fun u h1 => bindR (ml env h1) fun l h2 => bindR (mh env h2) fun k h3 => liftR (cSlc h3 u l k) h3 := by
  intro W tk
  refine ⟨fun pins s σ H Q I hw => ?_⟩
  refine (pe_slice (slf (ca := ca) (W := W) σ) (ja W tk) (jl W tk) (jh W tk)).run pins s σ H Q I ?_
  obtain ⟨g, oa, env, h, er, sr, f⟩ := hw
  refine step er sr f fun x H1 g1 h1 u e1 sr1 v1 f1 => ?_
  refine stepO (er.ext sr.sane e1) sr1 f1 fun l H2 g2 h2 e2 sr2 f2 => ?_
  refine stepO ((er.ext sr.sane e1).ext sr1.sane e2) sr2 f2 fun k H3 g3 h3 e3 sr3 f3 => ?_
  exact ⟨g3, h3, u, sr3, (v1.ext sr1.sane e2).ext sr2.sane e3, f3⟩

/-! ### built-ins -/
def rC (K : PySem.W.Frag) (ca : CA) (W : WX) (f : Hm → List PV → Option PV) : St → List V → Hp → VK → Prop := fun σ ys H Q => ∃ g h us, SR K ca g h H ∧ VTs K g H us ys ∧
  Fin K ca W σ g H (liftR (f h us) h) fun w _ g' H' => ∀ z, VT K g' H' w z → Q z H'
theorem je_blt {fv : Hm → List PV → Option PV} {id : String} {x : Str} {e : Expr} {es : List Expr} {m : En → Hm → Rs (List PV)} {p pos : Pos} (hc : ∀ W σ, CallR X (.builtin id) (rC X.K ca W fv σ)) (hg : Gl X x) (hm : X.mg x = none)
    (hv : bootBuiltins x = some (.builtin id)) (hn : x ≠ "__name__") (hd : (x == ("__debug__" : Str)) = false) (ja : JA ca X (e :: es) m)
    (he : starEach (e :: es) X.env = (false, eval e X.env) :: starEach es X.env) (hpl : (backTo pos (starEach es X.env)).any (·.1) = false) :
    JE ca X (.Call (.Name x p) (e :: es) [] pos) fun env h => bindR (m env h) fun vs h1 => liftR (fv h1 vs) h1 := by
  intro W tk
  refine ⟨fun pins s σ H Q I hw => ?_⟩
  refine (pe_callB (hc W σ) hg hm hv (ja W tk) hn hd he hpl).run pins s σ H Q I ?_
  obtain ⟨g, oa, env, h, er, sr, f⟩ := hw
  refine stepA er sr f fun y H1 g1 h1 us e1 sr1 v1 f1 => ?_
  exact ⟨g1, h1, us, sr1, v1, f1⟩
theorem je_bltT {fv : Hm → List PV → Option PV} {T : String} {x : Str} {e : Expr} {es : List Expr} {m : En → Hm → Rs (List PV)} {p pos : Pos} (hc : ∀ W σ, CallR X (.type T) (rC X.K ca W fv σ)) (hg : Gl X x) (hm : X.mg x = none)
    (hv : bootBuiltins x = some (.type T)) (hn : x ≠ "__name__") (hd : (x == ("__debug__" : Str)) = false) (ja : JA ca X (e :: es) m)
    (he : starEach (e :: es) X.env = (false, eval e X.env) :: starEach es X.env) (hpl : (backTo pos (starEach es X.env)).any (·.1) = false) :
    JE ca X (.Call (.Name x p) (e :: es) [] pos) fun env h => bindR (m env h) fun vs h1 => liftR (fv h1 vs) h1 := by
  intro W tk
  refine ⟨fun pins s σ H Q I hw => ?_⟩
  refine (pe_callTy (hc W σ) hg hm hv (ja W tk) hn hd he hpl).run pins s σ H Q I ?_
  obtain ⟨g, oa, env, h, er, sr, f⟩ := hw
  refine stepA er sr f fun y H1 g1 h1 us e1 sr1 v1 f1 => ?_
  exact ⟨g1, h1, us, sr1, v1, f1⟩
theorem vts1 {K : PySem.W.Frag} {g : G} {H : Hp} {u : PV} {ys : List V} (r : VTs K g H [u] ys) : ∃ y, ys = [y] ∧ VT K g H u y := by
  obtain ⟨y, ys, rfl, h, rfl⟩ := r
  exact ⟨y, rfl, h⟩
theorem vts2 {K : PySem.W.Frag} {g : G} {H : Hp} {u v : PV} {ys : List V} (r : VTs K g H [u, v] ys) : ∃ y z, ys = [y, z] ∧ VT K g H u y ∧ VT K g H v z := by
  obtain ⟨y, ys, rfl, h, z, ys, rfl, h2, rfl⟩ := r
  exact ⟨y, z, rfl, h, h2⟩
theorem vts3 {K : PySem.W.Frag} {g : G} {H : Hp} {u v w : PV} {ys : List V} (r : VTs K g H [u, v, w] ys) : ∃ y z x, ys = [y, z, x] ∧ VT K g H u y ∧ VT K g H v z ∧ VT K g H w x := by
  obtain ⟨y, ys, rfl, h, z, ys, rfl, h2, x, ys, rfl, h3, rfl⟩ := r
  exact ⟨y, z, x, rfl, h, h2, h3⟩
theorem pv1 {o : List PV → Option PV} {ps : List PV} {w : PV} (f : PV → Option PV) (h0 : ∀ v, o [v] = f v) (h1 : ∀ ps, (∀ v, ps ≠ [v]) → o ps = none) (e : o ps = some w) : ∃ v, ps = [v] ∧ f v = some w := by
  match ps, e with
  | [], e => rw [h1 [] (fun v q => by cases q)] at e; cases e
  | [v], e => exact ⟨v, rfl, by rw [← h0]; exact e⟩
  | a :: b :: r, e => rw [h1 _ (fun v q => by cases q)] at e; cases e
theorem bl_len (W : WX) (σ0 : St) : CallR X (.builtin "len") (rC X.K ca W blLen σ0) := by
  intro pins s σ H xs us Q I r ⟨g, h, ps, sr, rv, f⟩
  obtain ⟨w, ew, q⟩ := finB f
  match ps, ew with
  | [v], ew =>
    obtain ⟨y, rfl, rx⟩ := vts1 rv
    have gen : (asSeq h v).map (fun xs => PV.int xs.length) = some w → wpAny (model X.prog X.w) X.A (call (.builtin "len") us) (EP X pins σ Q) X.xe s := fun ew => by
      cases hx : asSeq h v with
      | none => rw [hx] at ew; cases ew
      | some ys =>
        rw [hx] at ew; cases ew
        obtain ⟨a, vs, rfl, hq, t⟩ := asSeq_rel sr rx hx
        refine call_len_seq pins s σ H _ us Q I r ⟨a, vs, rfl, hq, ?_⟩
        rw [t.length]
        exact q g H (Ext.refl _ _) sr _ rfl
    cases v with
    | str z =>
      cases ew
      obtain ⟨rfl, hl⟩ := rx
      exact call_len pins s σ H _ us Q I r ⟨_, _, rfl, ⟨hl, rfl⟩, q g H (Ext.refl _ _) sr _ rfl⟩
    | _ => exact gen ew
theorem bl_int (W : WX) (σ0 : St) : CallR X (.type "int") (rC X.K ca W blInt σ0) := by
  intro pins s σ H xs us Q I r ⟨g, h, ps, sr, rv, f⟩
  obtain ⟨w, ew, q⟩ := finB f
  match ps, ew with
  | [v], ew =>
    obtain ⟨y, rfl, rx⟩ := vts1 rv
    cases v <;> first | (cases ew; done) | skip
    cases ew; cases rx
    exact call_int1 pins s σ H _ us Q I r (.inl ⟨_, rfl, q g H (Ext.refl _ _) sr _ rfl⟩)
theorem bl_min2 (hc : X.calm = true) (W : WX) (σ0 : St) : CallR X (.builtin "min") (rC X.K ca W blMin2 σ0) := by
  intro pins s σ H xs us Q I r ⟨g, h, ps, sr, rv, f⟩
  obtain ⟨w, ew, q⟩ := finB f
  match ps, ew with
  | [u, v], ew =>
    obtain ⟨y, z, rfl, rx, ry⟩ := vts2 rv
    cases u <;> first | (cases ew; done) | skip
    cases v <;> first | (cases ew; done) | skip
    cases ew; cases rx; cases ry
    exact call_min2 hc pins s σ H _ us Q I r ⟨_, _, rfl, q g H (Ext.refl _ _) sr _ rfl⟩
theorem bl_max2 (hc : X.calm = true) (W : WX) (σ0 : St) : CallR X (.builtin "max") (rC X.K ca W blMax2 σ0) := by
  intro pins s σ H xs us Q I r ⟨g, h, ps, sr, rv, f⟩
  obtain ⟨w, ew, q⟩ := finB f
  match ps, ew with
  | [u, v], ew =>
    obtain ⟨y, z, rfl, rx, ry⟩ := vts2 rv
    cases u <;> first | (cases ew; done) | skip
    cases v <;> first | (cases ew; done) | skip
    cases ew; cases rx; cases ry
    exact call_max2 hc pins s σ H _ us Q I r ⟨_, _, rfl, q g H (Ext.refl _ _) sr _ rfl⟩
theorem bl_min3 (hc : X.calm = true) (W : WX) (σ0 : St) : CallR X (.builtin "min") (rC X.K ca W blMin3 σ0) := by
  intro pins s σ H xs us Q I r ⟨g, h, ps, sr, rv, f⟩
  obtain ⟨w, ew, q⟩ := finB f
  match ps, ew with
  | [u, v, x], ew =>
    obtain ⟨y, z, y3, rfl, rx, ry, rz⟩ := vts3 rv
    cases u <;> first | (cases ew; done) | skip
    cases v <;> first | (cases ew; done) | skip
    cases x <;> first | (cases ew; done) | skip
    rename_i a b c
    cases rx; cases ry; cases rz
    obtain ⟨u1, us1, rfl, ⟨t1, rfl⟩, r1⟩ : ∃ u us', us = u :: us' ∧ RelV (.int a) u ∧ Vals [.int b, .int c] us' := by
      cases r with
      | cons p t => exact ⟨_, _, rfl, p, t⟩
    obtain ⟨u2, u3, rfl, ⟨t2, rfl⟩, ⟨t3, rfl⟩⟩ := vals2 r1
    refine min_three_ints (I.ok.hd hc) fun h' tk k => ?_
    cases ew
    refine ⟨_, H, I.kept k, ?_, q g H (Ext.refl _ _) sr _ rfl⟩
    split <;> split <;> exact ⟨_, rfl⟩
theorem bl_tup (W : WX) (σ0 : St) : CallR X (.type "tuple") (rC X.K ca W blTup σ0) := by
  intro pins s σ H xs us Q I r ⟨g, h, ps, sr, rv, f⟩
  obtain ⟨w, ew, q⟩ := finB f
  match ps, ew with
  | [v], ew =>
    obtain ⟨y, rfl, rx⟩ := vts1 rv
    have gen : ∀ ys, asLst h v = some ys → w = .tup ys → wpAny (model X.prog X.w) X.A (call (.type "tuple") us) (EP X pins σ Q) X.xe s := fun ys hx hw => by
      obtain ⟨a, vs, rfl, hq, t⟩ := asLst_rel sr rx hx
      subst hw
      exact call_tuple_of pins s σ H _ us Q I r ⟨a, vs, rfl, .inl ⟨.inl (.inl hq), fun p hp => new_tup sr t hp q⟩⟩
    have ew : (asSeq h v).map PV.tup = some w := ew
    cases v with
    | tup xs =>
      cases ew
      obtain ⟨a, vs, rfl, hq, t⟩ := id rx
      exact call_tuple_of pins s σ H _ us Q I r ⟨a, vs, rfl, .inr ⟨hq.sq, q g H (Ext.refl _ _) sr _ rx⟩⟩
    | lst xs => cases ew; exact gen xs rfl rfl
    | bor xs => cases ew; exact gen xs rfl rfl
    | ref n =>
      cases hx : asSeq h (.ref n) with
      | none => rw [hx] at ew; cases ew
      | some ys => rw [hx] at ew; cases ew; exact gen ys hx rfl
    | _ => cases ew
theorem pBls_map : ∀ {xs : List PV} {bs : List Bool}, pBls xs = some bs → xs = bs.map PV.bl
  | [], _, e => by cases e; rfl
  | .bl b :: r, bs, e => by
    have e : (pBls r).map (b :: ·) = some bs := e
    cases h : pBls r with
    | none => rw [h] at e; cases e
    | some cs => rw [h] at e; cases e; rw [pBls_map h]; rfl
  | .non :: _, _, e | .int _ :: _, _, e | .str _ :: _, _, e | .tup _ :: _, _, e | .lst _ :: _, _, e | .bor _ :: _, _, e | .dct _ :: _, _, e | .bod _ :: _, _, e | .ref _ :: _, _, e | .scr _ :: _, _, e | .ty _ :: _, _, e => by cases e
theorem pInts_map : ∀ {xs : List PV} {bs : List Int}, pInts xs = some bs → xs = bs.map PV.int
  | [], _, e => by cases e; rfl
  | .int b :: r, bs, e => by
    have e : (pInts r).map (b :: ·) = some bs := e
    cases h : pInts r with
    | none => rw [h] at e; cases e
    | some cs => rw [h] at e; cases e; rw [pInts_map h]; rfl
  | .non :: _, _, e | .bl _ :: _, _, e | .str _ :: _, _, e | .tup _ :: _, _, e | .lst _ :: _, _, e | .bor _ :: _, _, e | .dct _ :: _, _, e | .bod _ :: _, _, e | .ref _ :: _, _, e | .scr _ :: _, _, e | .ty _ :: _, _, e => by cases e
theorem VRs.bls {K : PySem.W.Frag} {g : G} {H : Hp} : ∀ {bs : List Bool} {vs : List V}, VRs K g H (bs.map PV.bl) vs → vs = bs.map V.bl
  | [], _, r => r
  | _ :: _, _, r => by
    obtain ⟨y, ys, rfl, rfl, t⟩ := r
    rw [VRs.bls t]; rfl
theorem VRs.ints {K : PySem.W.Frag} {g : G} {H : Hp} : ∀ {bs : List Int} {vs : List V}, VRs K g H (bs.map PV.int) vs → vs = bs.map V.int
  | [], _, r => r
  | _ :: _, _, r => by
    obtain ⟨y, ys, rfl, rfl, t⟩ := r
    rw [VRs.ints t]; rfl
theorem bl_all (hc : X.calm = true) (W : WX) (σ0 : St) : CallR X (.builtin "all") (rC X.K ca W blAll σ0) := by
  intro pins s σ H xs us Q I r ⟨g, h, ps, sr, rv, f⟩
  obtain ⟨w, ew, q⟩ := finB f
  match ps, ew with
  | [v], ew =>
    obtain ⟨y, rfl, rx⟩ := vts1 rv
    have ew : ((asLst h v).bind pBls).map (fun bs => PV.bl (bs.all id)) = some w := ew
    cases hx : asLst h v with
    | none => rw [hx] at ew; cases ew
    | some ys =>
      rw [hx, Option.bind_some] at ew
      obtain ⟨a, vs, rfl, hq, t⟩ := asLst_rel sr rx hx
      cases hb : pBls ys with
      | none => rw [hb] at ew; cases ew
      | some bs =>
        rw [hb] at ew; cases ew
        rw [pBls_map hb] at t
        rw [t.bls] at hq
        exact cr_all hc pins s σ H _ us Q I r ⟨a, bs, rfl, .inl (.inl hq), q g H (Ext.refl _ _) sr _ rfl⟩
theorem bl_any (hc : X.calm = true) (W : WX) (σ0 : St) : CallR X (.builtin "any") (rC X.K ca W blAny σ0) := by
  intro pins s σ H xs us Q I r ⟨g, h, ps, sr, rv, f⟩
  obtain ⟨w, ew, q⟩ := finB f
  match ps, ew with
  | [v], ew =>
    obtain ⟨y, rfl, rx⟩ := vts1 rv
    have ew : ((asLst h v).bind pBls).map (fun bs => PV.bl (bs.any id)) = some w := ew
    cases hx : asLst h v with
    | none => rw [hx] at ew; cases ew
    | some ys =>
      rw [hx, Option.bind_some] at ew
      obtain ⟨a, vs, rfl, hq, t⟩ := asLst_rel sr rx hx
      cases hb : pBls ys with
      | none => rw [hb] at ew; cases ew
      | some bs =>
        rw [hb] at ew; cases ew
        rw [pBls_map hb] at t
        rw [t.bls] at hq
        exact cr_any hc pins s σ H _ us Q I r ⟨a, bs, rfl, .inl (.inl hq), q g H (Ext.refl _ _) sr _ rfl⟩
theorem bl_sum (hc : X.calm = true) (W : WX) (σ0 : St) : CallR X (.builtin "sum") (rC X.K ca W blSum σ0) := by
  intro pins s σ H xs us Q I r ⟨g, h, ps, sr, rv, f⟩
  obtain ⟨w, ew, q⟩ := finB f
  match ps, ew with
  | [v], ew =>
    obtain ⟨y, rfl, rx⟩ := vts1 rv
    have ew : ((asLst h v).bind pInts).map (fun bs => PV.int bs.sum) = some w := ew
    cases hx : asLst h v with
    | none => rw [hx] at ew; cases ew
    | some ys =>
      rw [hx, Option.bind_some] at ew
      obtain ⟨a, vs, rfl, hq, t⟩ := asLst_rel sr rx hx
      cases hb : pInts ys with
      | none => rw [hb] at ew; cases ew
      | some bs =>
        rw [hb] at ew; cases ew
        rw [pInts_map hb] at t
        rw [t.ints] at hq
        exact cr_sum hc pins s σ H _ us Q I r ⟨a, bs, rfl, .inl (.inl hq), q g H (Ext.refl _ _) sr _ rfl⟩
theorem bl_ord (W : WX) (σ0 : St) : CallR X (.builtin "ord") (rC X.K ca W blOrd σ0) := by
  intro pins s σ H xs us Q I r ⟨g, h, ps, sr, rv, f⟩
  obtain ⟨w, ew, q⟩ := finB f
  match ps, ew with
  | [v], ew =>
    obtain ⟨y, rfl, rx⟩ := vts1 rv
    cases v <;> first | (cases ew; done) | skip
    rename_i z
    have ew : (if z.length = 1 then some (PV.int (z.cps.getD 0 0 : Nat)) else none) = some w := ew
    split at ew
    · rename_i h1
      cases ew
      obtain ⟨rfl, _⟩ := rx
      exact call_ord pins s σ H _ us Q I r ⟨_, rfl, h1, q g H (Ext.refl _ _) sr _ rfl⟩
    · cases ew
end
end PG


set_option Elab.async false
set_option maxRecDepth 100000
set_option linter.unusedVariables false
/-! PgS4: names, displays, tests, calls, comprehensions. -/
namespace PG
open PySem L2

/-- what is written of a block: its slots, its names' kinds; what the module holds -/
structure Sta where
  N : List Str
  names : List (Str × NameKind)
  free : List String
  consts : List (String × PV)
  fns : List (String × Nat)

/-- a def's promise: what the small language says of it -/
def spF (K : PySem.W.Frag) (ca : CA) (cf : List PV → Hm → Rs PV) : Sp := fun vs H Q E => ∃ g h as, SR K ca g h H ∧ VRs K g H as vs ∧
  Fin K ca (fun cls d _ H' => E cls d H') [] g H (cf as h) fun v _ g' H' => ∀ y, VR K g' H' v y → Q y H'

structure FnAt (X : Cx) (ca : CA) (cf : List PV → Hm → Rs PV) (f : String) (np : Nat) : Prop where
  ex : ∃ a fd ps kk, X.mg (Str.ofString f) = some (.ref a) ∧ PySem.W.keepIn X.K (.ref a) = true ∧ Binds X.K fd ps [] ∧ Room kk X.A ∧ FnOk X.prog X.w X.K X.mg X.base (L2.CX X.prog X.w) kk a fd ps (spF X.K ca cf)
  nd : ((Str.ofString f) == ("__debug__" : Str)) = false

structure GX (ca : CA) (cf : Cf) (st : Sta) (X : Cx) : Prop where
  hN : X.N = st.N
  nd : X.N.Nodup
  loc : ∀ x, st.names.lookup x = some .local → X.env.scope.names.lookup x = some .local
  cel : ∀ x, st.names.lookup x = some .cell → X.env.scope.names.lookup x = some .cell ∧ X.fn x = true
  fre : ∀ x, st.names.lookup x = some .free → X.env.scope.names.lookup x = some .free ∨ X.env.scope.names.lookup x = some .cell
  glo : ∀ x, st.names.lookup x = some .globalImplicit → X.env.kindOf x = some .globalImplicit
  kind : X.env.scope.kind = .function
  calm : X.calm = true
  free : ∀ x, x ∈ st.free → X.mg (Str.ofString x) = none
  consts : ∀ x c, st.consts.lookup x = some c → c.nb = true ∧ ∃ u v, X.mg (Str.ofString x) = some u ∧ RelV v u ∧ ∀ g H, VR X.K g H c v
  fns : ∀ f n, (f, n) ∈ st.fns → FnAt X ca (cf f) f n

def visB (st : Sta) (x : Str) : Bool :=
  match st.names.lookup x with
  | some .local => true
  | some .cell => true
  | some .free => true
  | _ => false
def locB (st : Sta) (x : Str) : Bool :=
  match st.names.lookup x with
  | some .local => true
  | some .cell => true
  | _ => false

section
variable {ca : CA} {cf : Cf} {st : Sta} {X : Cx} {W : WX}
theorem GX.vis (G : GX ca cf st X) {x : Str} (h : visB st x = true) : Vis X.env.scope x := by
  unfold visB at h
  split at h
  · exact .inl (G.loc x (by assumption))
  · exact .inr (.inl (G.cel x (by assumption)).1)
  · rcases G.fre x (by assumption) with q | q
    · exact .inr (.inr q)
    · exact .inr (.inl q)
  · cases h
theorem GX.loca (G : GX ca cf st X) {x : Str} (h : locB st x = true) : Loc X.env.scope x ∧ (X.fn x = true ∨ X.env.scope.names.lookup x = some .local) := by
  unfold locB at h
  split at h
  · exact ⟨.inl (G.loc x (by assumption)), .inr (G.loc x (by assumption))⟩
  · exact ⟨.inr (G.cel x (by assumption)).1, .inl (G.cel x (by assumption)).2⟩
  · cases h

section
variable {K : PySem.W.Frag} {g : G} {H : Hp} {env : En} {σ : St} {oa : Nat → Option Addr}
theorem ER.at (er : ER K g H env σ oa) {i : Nat} {s : Sl} (h : env[i]? = some s) : ∃ y, σ[i]? = some y ∧ SlR K g H s y (oa i) := by
  have hi : i < env.length := (List.getElem?_eq_some_iff.mp h).1
  have hj : i < σ.length := by rw [← er.len]; exact hi
  exact ⟨σ[i], List.getElem?_eq_getElem hj, er.sl i s _ h (List.getElem?_eq_getElem hj)⟩
theorem slGet_rel (er : ER K g H env σ oa) {i : Nat} {v : PV} (h : slGet env i = some v) : ∃ y, σ[i]? = some (some y) ∧ VT K g H v y := by
  unfold slGet at h
  split at h
  · rename_i x hx
    cases h
    obtain ⟨y, e, _, z, q, t⟩ := er.at hx
    subst q
    exact ⟨z, e, t.vt⟩
  · rename_i x hx
    cases h
    obtain ⟨y, e, a, vs, q, ho, hH, t⟩ := er.at hx
    subst q
    exact ⟨_, e, a, vs, rfl, hH, (er.mem i a ho).2.1, t⟩
  · rename_i x hx
    cases h
    obtain ⟨y, e, a, vs, q, ho, hH, t⟩ := er.at hx
    subst q
    exact ⟨_, e, a, vs, rfl, hH, (er.mem i a ho).2.1, t⟩
  · cases h
/-- a slot set to a value -/
theorem ER.setVal (er : ER K g H env σ oa) {i : Nat} {v : PV} {y : V} (hi : i < env.length) (r : VR K g H v y) : ER K g H (env.set i (.val v)) (σ.set i (some y)) (fun j => if j = i then none else oa j) := by
  refine ⟨by simp [er.len], fun j s z h1 h2 => ?_, fun j hj => ?_, fun j k a h1 h2 => ?_, fun j a h1 => ?_⟩
  · by_cases e : j = i
    · subst e
      rw [List.getElem?_set_self hi] at h1
      rw [List.getElem?_set_self (by rw [← er.len]; exact hi)] at h2
      cases h1; cases h2
      exact ⟨by simp, y, rfl, r⟩
    · rw [List.getElem?_set_ne (Ne.symm e)] at h1 h2
      rw [if_neg e]
      exact er.sl j s z h1 h2
  · rw [List.length_set] at hj
    by_cases e : j = i
    · simp [e]
    · rw [if_neg e]; exact er.out j hj
  · by_cases e1 : j = i
    · rw [if_pos e1] at h1; cases h1
    · by_cases e2 : k = i
      · rw [if_pos e2] at h2; cases h2
      · rw [if_neg e1] at h1; rw [if_neg e2] at h2
        exact er.inj j k a h1 h2
  · by_cases e1 : j = i
    · rw [if_pos e1] at h1; cases h1
    · rw [if_neg e1] at h1; exact er.mem j a h1
/-- a slot forgotten -/
theorem ER.setNo (er : ER K g H env σ oa) {i : Nat} : ER K g H (env.set i .no) (σ.set i none) (fun j => if j = i then none else oa j) := by
  refine ⟨by simp [er.len], fun j s z h1 h2 => ?_, fun j hj => ?_, fun j k a h1 h2 => ?_, fun j a h1 => ?_⟩
  · by_cases e : j = i
    · subst e
      have hi : j < env.length := by
        have := (List.getElem?_eq_some_iff.mp h1).1
        simpa using this
      rw [List.getElem?_set_self hi] at h1
      cases h1
      show (if j = j then none else oa j) = none
      simp
    · rw [List.getElem?_set_ne (Ne.symm e)] at h1 h2
      rw [if_neg e]
      exact er.sl j s z h1 h2
  · rw [List.length_set] at hj
    by_cases e : j = i
    · simp [e]
    · rw [if_neg e]; exact er.out j hj
  · by_cases e1 : j = i
    · rw [if_pos e1] at h1; cases h1
    · by_cases e2 : k = i
      · rw [if_pos e2] at h2; cases h2
      · rw [if_neg e1] at h1; rw [if_neg e2] at h2
        exact er.inj j k a h1 h2
  · by_cases e1 : j = i
    · rw [if_pos e1] at h1; cases h1
    · rw [if_neg e1] at h1; exact er.mem j a h1
theorem ER.wipe (er : ER K g H env σ oa) : ∀ is : List Nat, ∃ oa', ER K g H (wipeE env is) (L2.wipe σ is) oa'
  | [] => ⟨oa, er⟩
  | i :: is => by
    obtain ⟨oa', e⟩ := ER.wipe er is
    exact ⟨_, e.setNo⟩
end

/-! ### names, constants -/
theorem je_var (G : GX ca cf st X) {i : Nat} {x : Str} {pos : Pos} (hN : st.N[i]? = some x) (hv : visB st x = true) (hd : (x == ("__debug__" : Str)) = false) (hcd : (x == ("__classdict__" : Str)) = false) :
    JE ca X (.Name x pos) fun env h => liftR (slGet env i) h := by
  intro W tk
  refine ⟨fun pins s σ H Q I hw => ?_⟩
  refine (pe_var (i := i) (by rw [G.hN]; exact hN) (G.vis hv) hd hcd).run pins s σ H Q I ?_
  obtain ⟨g, oa, env, h, er, sr, f⟩ := hw
  obtain ⟨v, e, q⟩ := f.lift
  obtain ⟨y, hy, r⟩ := slGet_rel er e
  exact ⟨y, hy, q.here sr y r⟩
theorem je_const {e : Expr} {c : PV} {v : V} (h : PE X e (tC v)) (r : ∀ g H, VT X.K g H c v) : JE ca X e fun _ h => okR c h := by
  intro W tk
  refine ⟨fun pins s σ H Q I hw => ?_⟩
  refine h.run pins s σ H Q I ?_
  obtain ⟨g, oa, env, h, er, sr, f⟩ := hw
  exact f.here sr v (r g H)
theorem je_glb (G : GX ca cf st X) {x : String} {c : PV} {pos : Pos} (hg : st.names.lookup (Str.ofString x) = some .globalImplicit) (hc : st.consts.lookup x = some c) (hd : ((Str.ofString x) == ("__debug__" : Str)) = false) :
    JE ca X (.Name (Str.ofString x) pos) fun _ h => okR c h := by
  obtain ⟨_, u, v, h1, h2, h3⟩ := G.consts x c hc
  exact je_const (pe_glob (G.glo _ hg) h1 h2 hd) fun g H => (h3 g H).vt

/-! ### argument lists, displays -/
theorem ja_nil : JA ca X [] fun _ h => okR [] h := by
  intro W tk
  refine ⟨fun pos pins s σ H Q I hw => ?_⟩
  refine pa_nil.run pos pins s σ H Q I ?_
  obtain ⟨g, oa, env, h, er, sr, f⟩ := hw
  exact f.here sr [] rfl
theorem ja_cons {e : Expr} {es : List Expr} {m : En → Hm → Rs PV} {ms : En → Hm → Rs (List PV)} (je : JE ca X e m) (ja : JA ca X es ms) (hs : starEach (e :: es) X.env = (false, eval e X.env) :: starEach es X.env) :
    JA ca X (e :: es) fun env h => bindR (m env h) fun v h1 => bindR (ms env h1) fun vs h2 => okR (v :: vs) h2 := by
  intro W tk
  refine ⟨fun pos pins s σ H Q I hw => ?_⟩
  refine (pa_cons (je W tk) (ja W tk) hs).run pos pins s σ H Q I ?_
  obtain ⟨g, oa, env, h, er, sr, f⟩ := hw
  refine step er sr f fun x H1 g1 h1 u e1 sr1 v1 f1 => ?_
  refine stepA (er.ext sr.sane e1) sr1 f1 fun ys H2 g2 h2 us e2 sr2 v2 f2 => ?_
  exact f2.here sr2 (x :: ys) ⟨x, ys, rfl, v1.ext sr1.sane e2, v2⟩
theorem je_tup {es : List Expr} {k : Nat} {pos : Pos} {ms : En → Hm → Rs (List PV)} (ja : JA ca X es ms) :
    JE ca X (.Tuple es k pos) fun env h => bindR (ms env h) fun vs h1 => if vs.all PV.nb = true ∧ vs.length ≤ sizeLine then okR (.tup vs) h1 else none := by
  intro W tk
  refine ⟨fun pins s σ H Q I hw => ?_⟩
  refine (pe_tup (ja W tk)).run pins s σ H Q I ?_
  obtain ⟨g, oa, env, h, er, sr, f⟩ := hw
  refine stepA er sr f fun ys H1 g1 h1 us e1 sr1 v1 f1 => ?_
  split at f1
  · rename_i hc
    refine ⟨by rw [v1.length]; exact hc.2, fun p hp => new_tup sr1 (v1.vrs hc.1) hp fun g' H' e s z r => f1 g' H' e s z r⟩
  · exact f1.elim
theorem jl_dsp {es : List Expr} {pos : Pos} {ms : En → Hm → Rs (List PV)} (ja : JA ca X es ms) :
    JL ca X (.List es pos) fun env h => bindR (ms env h) fun vs h1 => if vs.all PV.nb = true ∧ vs.length ≤ sizeLine then okR vs h1 else none := by
  intro W tk
  refine ⟨fun pins s σ H Q I hw => ?_⟩
  refine (pe_lst (ja W tk)).run pins s σ H Q I ?_
  obtain ⟨g, oa, env, h, er, sr, f⟩ := hw
  refine stepA er sr f fun ys H1 g1 h1 us e1 sr1 v1 f1 => ?_
  split at f1
  · rename_i hc
    refine ⟨by rw [v1.length]; exact hc.2, fun p hp => ?_⟩
    have hp0 : H p = none := by
      cases q : H p with
      | none => rfl
      | some o =>
        by_cases hm : p ∈ g.φ
        · exact absurd hp (e1.stays p hm (by rw [q]; simp))
        · rw [e1.keep p o q hm] at hp; cases hp
    exact f1 (g1.mut p) _ (Ext.mut hp) (sr1.mut hp) p ys hp0 upd_same (.inr rfl) (sr1.free hp) ((v1.vrs hc.1).ext sr1.sane (Ext.mut hp))
  · exact f1.elim

theorem Ext.back {g g' : G} {H H' : Hp} (e : Ext g H g' H') {p : Addr} (hp : H' p = none) : H p = none := by
  cases q : H p with
  | none => rfl
  | some o =>
    by_cases hm : p ∈ g.φ
    · exact absurd hp (e.stays p hm (by rw [q]; simp))
    · rw [e.keep p o q hm] at hp; cases hp
/-- what was new is from now on never to change -/
theorem Ext.toFix {g g' : G} {H H' : Hp} (e : Ext g H g' H') {p : Addr} (hp : H p = none) : Ext g H (g'.fix p) H' :=
  ⟨e.pre, e.newφ, fun a h => e.newM a h.1, fun a h hx => ⟨e.oldM a h hx, fun q => hx (q ▸ hp)⟩, e.keep, e.stays⟩
theorem SR.toFix {K : PySem.W.Frag} {g : G} {H : Hp} {h : Hm} {p : Addr} (s : SR K ca g h H) (hp : p ∉ g.φ) : SR K ca (g.fix p) h H :=
  s.extM (g' := g.fix p) ⟨⟨[], by simp⟩, fun a h => .inl h.1, fun a o h _ => h, fun a xs h => h⟩ rfl (fun a ha => ⟨s.mem a ha, fun q => hp (q ▸ ha)⟩) fun a _ => rfl
theorem VRs.toFix {K : PySem.W.Frag} {g : G} {H : Hp} {xs : List PV} {vs : List V} {p : Addr} (t : VRs K g H xs vs) : VRs K (g.fix p) H xs vs :=
  t.extM (g' := g.fix p) ⟨⟨[], by simp⟩, fun a h => .inl h.1, fun a o h _ => h, fun a xs h => h⟩
theorem rd_lst {m : En → Hm → Rs (List PV)} {σ : St} {H : Hp} {Q : VK} (hw : rdE X.K ca W (fun env h => bindR (m env h) fun vs h1 => okR (.lst vs) h1) σ H Q) : rdL X.K ca W m σ H Q := by
  obtain ⟨g, oa, env, h, er, sr, f⟩ := hw
  refine ⟨g, oa, env, h, er, sr, ?_⟩
  rcases hm : m env h with _ | ⟨a | x, h1⟩
  · simp only [hm] at f
    exact f.elim
  · simp only [hm] at f
    intro g' H' e s p vs hp hp1 hM hφ t
    exact f (g'.fix p) H' (e.toFix hp) (s.toFix hφ) _ ⟨p, vs, rfl, hp1, fun q => q.2 rfl, t.toFix⟩
  · simp only [hm] at f
    exact f
theorem je_lst {e : Expr} {m : En → Hm → Rs (List PV)} (jl : JL ca X e m) : JE ca X e fun env h => bindR (m env h) fun vs h1 => okR (.lst vs) h1 := fun W tk => PE_imp (jl W tk) fun σ H Q => rd_lst
/-- a cell of our own -/
theorem rd_rf {m : En → Hm → Rs (List PV)} {σ : St} {H : Hp} {Q : VK} (hw : rdE X.K ca W (fun env h => bindR (m env h) fun vs h1 => okR (.ref h1.length) (h1 ++ [.lst vs])) σ H Q) : rdL X.K ca W m σ H Q := by
  obtain ⟨g, oa, env, h, er, sr, f⟩ := hw
  refine ⟨g, oa, env, h, er, sr, ?_⟩
  rcases hm : m env h with _ | ⟨a | x, h1⟩
  · simp only [hm] at f
    exact f.elim
  · simp only [hm] at f
    intro g' H' e s p vs hp hp1 hM hφ t
    have eM : ExtM g' H' ⟨g'.φ ++ [p], g'.M⟩ H' := ⟨⟨[p], rfl⟩, fun a h => .inl h, fun a o h _ => h, fun a xs h => h⟩
    have s2 : SR X.K ca ⟨g'.φ ++ [p], g'.M⟩ (h1 ++ [.lst a]) H' := by
      refine ⟨by simp [s.len], ?_, fun b hb => ?_, fun i b o q1 q2 => ?_⟩
      · refine List.nodup_append.mpr ⟨s.nd, List.nodup_cons.mpr ⟨by simp, List.nodup_nil⟩, fun b hb c hc q => ?_⟩
        have : c = p := by simpa using hc
        exact hφ (by rw [← this, ← q]; exact hb)
      · rcases List.mem_append.mp hb with hb | hb
        · exact s.mem b hb
        · have : b = p := by simpa using hb
          rw [this]; exact hM
      · by_cases hi : i < g'.φ.length
        · have q1' : g'.φ[i]? = some b := by
            have : (g'.φ ++ [p])[i]? = some b := q1
            rwa [List.getElem?_append_left hi] at this
          have q2' : h1[i]? = some o := by rwa [List.getElem?_append_left (by rw [← s.len]; exact hi)] at q2
          exact (s.obj i b o q1' q2').extM eM rfl
        · have hi' : i = g'.φ.length := by
            have := (List.getElem?_eq_some_iff.mp q1).1
            simp at this; omega
          subst hi'
          have q1' : (g'.φ ++ [p])[g'.φ.length]? = some b := q1
          rw [List.getElem?_append_right (Nat.le_refl _)] at q1'
          rw [s.len, List.getElem?_append_right (Nat.le_refl _)] at q2
          simp at q1' q2
          subst q1'; subst q2
          exact ⟨vs, hp1, t.extM eM⟩
    refine f ⟨g'.φ ++ [p], g'.M⟩ H' ⟨?_, fun b hb => ?_, e.newM, e.oldM, e.keep, e.stays⟩ s2 _ ⟨p, ?_, rfl⟩
    · obtain ⟨r, q⟩ := e.pre
      exact ⟨r ++ [p], by show g'.φ ++ [p] = _; rw [q, List.append_assoc]⟩
    · rcases List.mem_append.mp hb with hb | hb
      · exact e.newφ b hb
      · have : b = p := by simpa using hb
        exact .inr (this ▸ hp)
    · show (g'.φ ++ [p])[h1.length]? = some p
      rw [← s.len, List.getElem?_append_right (Nat.le_refl _)]
      simp
  · simp only [hm] at f
    exact f
theorem je_rf {e : Expr} {m : En → Hm → Rs (List PV)} (jl : JL ca X e m) : JE ca X e fun env h => bindR (m env h) fun vs h1 => okR (.ref h1.length) (h1 ++ [.lst vs]) := fun W tk => PE_imp (jl W tk) fun σ H Q => rd_rf

/-! ### tests -/
theorem jt_tru {e : Expr} {m : En → Hm → Rs PV} (je : JE ca X e m) (hp : ∀ whole, isTrue e X.env whole = (do let v ← whole; standAt e.pos; holding [v] (truthy v))) :
    JT ca X e fun env h => bindR (m env h) fun v h1 => liftR (truth h1 v) h1 := by
  intro W tk
  refine ⟨fun pins s σ H Q I hw => ?_⟩
  refine (pt_truth (je W tk) hp).run pins s σ H Q I ?_
  obtain ⟨g, oa, env, h, er, sr, f⟩ := hw
  refine step er sr f fun x H1 g1 h1 u e1 sr1 v1 f1 => ?_
  obtain ⟨b, hb, q⟩ := f1.lift
  exact ⟨b, truth_rel sr1 v1 hb, q.here sr1⟩
theorem jt_not {e : Expr} {m : En → Hm → Rs Bool} {pos : Pos} (je : JT ca X e m) : JT ca X (.UnaryOp .Not e pos) fun env h => bindR (m env h) fun b h1 => okR (!b) h1 := by
  intro W tk
  refine ⟨fun pins s σ H Q I hw => ?_⟩
  refine (pt_not (je W tk)).run pins s σ H Q I ?_
  obtain ⟨g, oa, env, h, er, sr, f⟩ := hw
  exact stepT er sr f fun b H1 g1 h1 e1 sr1 f1 => f1.here sr1
end
end PG


set_option Elab.async false
set_option maxRecDepth 100000
set_option linter.unusedVariables false
/-! PgS5: isinstance, and | or, calls, new lists, what is walked. -/
namespace PG
open PySem L2

def tyAll : List String := ["NoneType", "bool", "int", "str", "tuple", "list", "dict"]
theorem kit_all : (tyAll.all fun a => tyKnown.all fun b => decide (kitB a b = some (isTy a b))) = true := by decide +kernel
theorem kit_of2 {K : PySem.W.Frag} {a b : String} (ha : a ∈ tyAll) (hb : b ∈ tyKnown) : PySem.W.kitOne K (.type a) (.type b) = some (isTy a b) := by
  have h := List.all_eq_true.mp (List.all_eq_true.mp kit_all a ha) b hb
  exact kit_ty (of_decide_eq_true h)
theorem kit_anyl {K : PySem.W.Frag} {a : String} (ha : a ∈ tyAll) : ∀ {ns : List String}, (∀ b ∈ ns, b ∈ tyKnown) → PySem.W.kitAny K (.type a) (ns.map Value.type) = some (ns.any (isTy a))
  | [], _ => kitAny_nil
  | b :: r, h => by
    refine kitAny_cons (kit_of2 ha (h b (List.mem_cons_self ..))) (fun hb => ?_) fun hb => ?_
    · rw [List.any_cons, hb, Bool.false_or]
      exact kit_anyl ha fun c hc => h c (List.mem_cons_of_mem _ hc)
    · rw [List.any_cons, hb, Bool.true_or]

section
variable {ca : CA} {cf : Cf} {st : Sta} {X : Cx} {W : WX}
theorem tyOf_rel {K : PySem.W.Frag} {g : G} {h : Hm} {H : Hp} {u : PV} {y : V} {t : String} (sr : SR K ca g h H) (r : VT K g H u y) (e : tyOf h u = some t) : TyX K H y (.type t) ∧ t ∈ tyAll := by
  cases u with
  | non => cases e; cases r; exact ⟨.base .non, by decide⟩
  | bl b => cases e; cases r; exact ⟨.base (.bl _), by decide⟩
  | int b => cases e; cases r; exact ⟨.base (.int _), by decide⟩
  | str b => cases e; obtain ⟨rfl, _⟩ := r; exact ⟨.base (.str _), by decide⟩
  | tup xs =>
    cases e
    obtain ⟨a, vs, rfl, q | ⟨o, its, n, q1, q2, _⟩, _⟩ := r
    · exact ⟨.base (.tup q), by decide⟩
    · exact ⟨.kTuple q1 q2, by decide⟩
  | lst xs => cases e; obtain ⟨a, vs, rfl, q, _⟩ := r; exact ⟨.base (.lst q), by decide⟩
  | bor xs => cases e; obtain ⟨a, vs, rfl, q, _⟩ := r; exact ⟨.base (.lst q), by decide⟩
  | dct xs => cases e; obtain ⟨a, vs, rfl, q, _⟩ := r; exact ⟨.base (.dK q), by decide⟩
  | bod xs => cases e; obtain ⟨a, vs, rfl, q, _⟩ := r; exact ⟨.base (.dK q), by decide⟩
  | ref n =>
    obtain ⟨a, q, rfl⟩ := r
    simp only [tyOf] at e
    split at e
    · rename_i xs hx
      cases e
      obtain ⟨vs, h1, t⟩ := sr.obj n a _ q hx
      exact ⟨.base (.lst h1), by decide⟩
    · rename_i xs hx
      cases e
      obtain ⟨vs, h1, t⟩ := sr.obj n a _ q hx
      exact ⟨.base (.dK h1), by decide⟩
    · cases e
  | scr _ => cases e
  | ty _ => cases e
theorem pTys_rel {K : PySem.W.Frag} {g : G} {H : Hp} : ∀ {cs : List PV} {ns : List String} {vs : List V}, pTys cs = some ns → VRs K g H cs vs → vs = ns.map V.ty
  | [], _, _, e, r => by cases e; exact r
  | c :: cs, ns, vs, e, r => by
    obtain ⟨y, ys, rfl, h, t⟩ := r
    unfold pTys at e
    split at e
    · rename_i n
      cases q : pTys cs with
      | none => rw [q] at e; cases e
      | some ms =>
        rw [q] at e; cases e; cases h
        rw [pTys_rel q t]; rfl
    · cases e
theorem clsV_all : ∀ ns : List String, Paired ClsV (ns.map V.ty) (ns.map Value.type)
  | [] => .nil
  | n :: ns => .cons (.ty n) (clsV_all ns)
theorem vals_tys : ∀ {ns : List String} {us : List Value}, Vals (ns.map V.ty) us → us = ns.map Value.type
  | [], _, .nil => rfl
  | _ :: _, _, .cons r t => by rw [vals_tys t]; cases r; rfl
theorem bl_isi (W : WX) (σ0 : St) : CallR X (.builtin "isinstance") (rC X.K ca W blIsi σ0) := by
  intro pins s σ H xs us Q I r ⟨g, h, ps, sr, rv, f⟩
  obtain ⟨w, ew, q⟩ := finB f
  match ps, ew with
  | [u, c], ew =>
    obtain ⟨y, z, rfl, rx, rc⟩ := vts2 rv
    have ew : blIsi2 h u c = some w := ew
    unfold blIsi2 at ew
    split at ew
    · cases ew
    · rename_i t ht
      obtain ⟨ty, ta⟩ := tyOf_rel sr rx ht
      split at ew
      · rename_i n
        split at ew
        · rename_i hk
          cases ew; cases rc
          exact call_isi pins s σ H _ us Q I r ⟨y, .ty _, .type t, .type _, _, rfl, .ty _, ty, kit_of2 ta (List.contains_iff_mem.mp hk), q g H (Ext.refl _ _) sr _ rfl⟩
        · cases ew
      · rename_i cs
        split at ew
        · rename_i ns hns
          split at ew
          · rename_i hk
            cases ew
            have hk' : ∀ b ∈ ns, b ∈ tyKnown := fun b hb => List.contains_iff_mem.mp (List.all_eq_true.mp hk b hb)
            obtain ⟨a, vs, rfl, ht2, t2⟩ := rc
            have ev := pTys_rel hns t2
            subst ev
            have fin := q g H (Ext.refl _ _) sr _ (rfl : VR X.K g H (.bl _) _)
            rcases ht2 with h1 | ⟨o, its, n, q1, q2, q3, q4, q5⟩
            · exact call_isiT pins s σ H _ us Q I r ⟨y, a, _, .type t, _, _, rfl, h1, clsV_all ns, ty, kit_anyl ta hk', fin⟩
            · obtain ⟨oc, od, dt, sl⟩ := o
              have e1 : oc = .type "tuple" := q2
              have e2 : dt = .seq its n := q3
              subst e1 e2
              have e3 := vals_tys q5
              exact call_isiK pins s σ H _ us Q I r ⟨y, a, od, _, n, sl, .type t, _, rfl, by rw [q1, ← e3], ty, kit_anyl ta hk', fin⟩
          · cases ew
        · cases ew
      · cases ew
theorem je_bty (G : GX ca cf st X) {n : String} {pos : Pos} (hg : st.names.lookup (Str.ofString n) = some .globalImplicit) (hf : n ∈ st.free) (hv : bootBuiltins (Str.ofString n) = some (.type n)) (hn : Str.ofString n ≠ "__name__") (hd : (Str.ofString n == ("__debug__" : Str)) = false) :
    JE ca X (.Name (Str.ofString n) pos) fun _ h => okR (.ty n) h := je_const (pe_bltn (v := .ty n) (G.glo _ hg) (G.free n hf) hv rfl hn hd) fun _ _ => rfl

/-! ### not, and, or, if, as values -/
theorem je_not {e : Expr} {m : En → Hm → Rs PV} {pos : Pos} (je : JE ca X e m) : JE ca X (.UnaryOp .Not e pos) fun env h => bindR (bindR (m env h) fun v h1 => liftR (truth h1 v) h1) fun b h1 => okR (.bl (!b)) h1 := by
  intro W tk
  refine ⟨fun pins s σ H Q I hw => ?_⟩
  refine (pe_notT (je W tk)).run pins s σ H Q I ?_
  obtain ⟨g, oa, env, h, er, sr, f⟩ := hw
  refine step er sr f.bind fun x H1 g1 h1 u e1 sr1 v1 f1 => ?_
  obtain ⟨b, hb, q⟩ := f1.lift
  exact ⟨b, truth_rel sr1 v1 hb, (q.here sr1).here sr1 _ rfl⟩
theorem je_neg {e : Expr} {m : En → Hm → Rs PV} {pos : Pos} (je : JE ca X e m) : JE ca X (.UnaryOp .USub e pos) fun env h => bindR (m env h) fun u h1 => match u with
    | .int i => okR (.int (-i)) h1
    | _ => none := by
  intro W tk
  refine ⟨fun pins s σ H Q I hw => ?_⟩
  refine (pe_un un_neg (je W tk)).run pins s σ H Q I ?_
  obtain ⟨g, oa, env, h, er, sr, f⟩ := hw
  refine step er sr f fun x H1 g1 h1 u e1 sr1 v1 f1 => ?_
  cases u <;> first | exact f1.elim | skip
  cases v1
  exact ⟨_, rfl, f1.here sr1 _ rfl⟩
theorem je_one {op : BoolOp} {e : Expr} {m : En → Hm → Rs PV} {pos : Pos} (je : JE ca X e m) : JE ca X (.BoolOp op [e] pos) m := fun W tk => pe_one (je W tk)
theorem je_and {e b : Expr} {rest : List Expr} {m mr : En → Hm → Rs PV} {pos : Pos} (je : JE ca X e m) (jr : JE ca X (.BoolOp .And (b :: rest) pos) mr) :
    JE ca X (.BoolOp .And (e :: b :: rest) pos) fun env h => bindR (m env h) fun v h1 => match v with
    | .bl k => if k = true then mr env h1 else okR (.bl k) h1
    | _ => none := by
  intro W tk
  refine ⟨fun pins s σ H Q I hw => ?_⟩
  refine (pe_and (je W tk) (jr W tk)).run pins s σ H Q I ?_
  obtain ⟨g, oa, env, h, er, sr, f⟩ := hw
  refine step er sr f fun x H1 g1 h1 u e1 sr1 v1 f1 => ?_
  cases u <;> first | exact f1.elim | skip
  rename_i k
  cases v1
  refine ⟨k, rfl, ?_⟩
  cases k with
  | true => exact ⟨g1, oa, env, h1, er.ext sr.sane e1, sr1, f1⟩
  | false => exact f1.here sr1 _ rfl
theorem je_or {e b : Expr} {rest : List Expr} {m mr : En → Hm → Rs PV} {pos : Pos} (je : JE ca X e m) (jr : JE ca X (.BoolOp .Or (b :: rest) pos) mr) :
    JE ca X (.BoolOp .Or (e :: b :: rest) pos) fun env h => bindR (m env h) fun v h1 => match v with
    | .bl k => if k = false then mr env h1 else okR (.bl k) h1
    | _ => none := by
  intro W tk
  refine ⟨fun pins s σ H Q I hw => ?_⟩
  refine (pe_or (je W tk) (jr W tk)).run pins s σ H Q I ?_
  obtain ⟨g, oa, env, h, er, sr, f⟩ := hw
  refine step er sr f fun x H1 g1 h1 u e1 sr1 v1 f1 => ?_
  cases u <;> first | exact f1.elim | skip
  rename_i k
  cases v1
  refine ⟨k, rfl, ?_⟩
  cases k with
  | false => exact ⟨g1, oa, env, h1, er.ext sr.sane e1, sr1, f1⟩
  | true => exact f1.here sr1 _ rfl
theorem je_ife {c a b : Expr} {mc : En → Hm → Rs Bool} {ma mb : En → Hm → Rs PV} {pos : Pos} (jc : JT ca X c mc) (ja : JE ca X a ma) (jb : JE ca X b mb) :
    JE ca X (.IfExp c a b pos) fun env h => bindR (mc env h) fun k h1 => if k = true then ma env h1 else mb env h1 := by
  intro W tk
  refine ⟨fun pins s σ H Q I hw => ?_⟩
  refine (pe_ifExp (jc W tk) (ja W tk) (jb W tk)).run pins s σ H Q I ?_
  obtain ⟨g, oa, env, h, er, sr, f⟩ := hw
  refine stepT er sr f fun k H1 g1 h1 e1 sr1 f1 => ?_
  cases k with
  | true => exact ⟨g1, oa, env, h1, er.ext sr.sane e1, sr1, f1⟩
  | false => exact ⟨g1, oa, env, h1, er.ext sr.sane e1, sr1, f1⟩

/-! ### and, or, as tests -/
def JW (ca : CA) (X : Cx) (e : Expr) (m : En → Hm → Rs Bool) : Prop := ∀ W, Takes X W → PW X e (rdT X.K ca W m)
theorem jw_one {op : BoolOp} {e : Expr} {m : En → Hm → Rs Bool} {pos : Pos} (je : JT ca X e m) : JW ca X (.BoolOp op [e] pos) m := fun W tk => by
  cases op with
  | And => exact pw_and1 (je W tk)
  | Or => exact pw_or1 (je W tk)
theorem jw_and {e b : Expr} {rest : List Expr} {m mr : En → Hm → Rs Bool} {pos : Pos} (je : JT ca X e m) (jr : JW ca X (.BoolOp .And (b :: rest) pos) mr) :
    JW ca X (.BoolOp .And (e :: b :: rest) pos) fun env h => bindR (m env h) fun k h1 => if k = true then mr env h1 else okR k h1 := by
  intro W tk
  refine ⟨fun wh pins s σ H Q I hw => ?_⟩
  refine (pw_and (je W tk) (jr W tk)).run wh pins s σ H Q I ?_
  obtain ⟨g, oa, env, h, er, sr, f⟩ := hw
  refine stepT er sr f fun k H1 g1 h1 e1 sr1 f1 => ?_
  cases k with
  | true => exact ⟨g1, oa, env, h1, er.ext sr.sane e1, sr1, f1⟩
  | false => exact f1.here sr1
theorem jw_or {e b : Expr} {rest : List Expr} {m mr : En → Hm → Rs Bool} {pos : Pos} (je : JT ca X e m) (jr : JW ca X (.BoolOp .Or (b :: rest) pos) mr) :
    JW ca X (.BoolOp .Or (e :: b :: rest) pos) fun env h => bindR (m env h) fun k h1 => if k = false then mr env h1 else okR k h1 := by
  intro W tk
  refine ⟨fun wh pins s σ H Q I hw => ?_⟩
  refine (pw_or (je W tk) (jr W tk)).run wh pins s σ H Q I ?_
  obtain ⟨g, oa, env, h, er, sr, f⟩ := hw
  refine stepT er sr f fun k H1 g1 h1 e1 sr1 f1 => ?_
  cases k with
  | false => exact ⟨g1, oa, env, h1, er.ext sr.sane e1, sr1, f1⟩
  | true => exact f1.here sr1

/-! ### calls of own defs -/
theorem fin_call {K : PySem.W.Frag} {g : G} {H : Hp} {σ : St} {r : Rs PV} {P P' : PV → Hm → G → Hp → Prop} {E : XK} (f : Fin K ca W σ g H r P) (hE : ∀ c d H', W c d σ H' → E c d H') (hP : ∀ a h' g' H', Ext g H g' H' → SR K ca g' h' H' → P a h' g' H' → P' a h' g' H') :
    Fin K ca (fun cls d _ H' => E cls d H') [] g H r P' := by
  rcases r with _ | ⟨a | x, h1⟩
  · exact f
  · exact fun g' H' e s => hP a h1 g' H' e s (f g' H' e s)
  · exact fun g' H' c d e s q => hE c d H' (f g' H' c d e s q)
theorem je_call {f : String} {np : Nat} {e : Expr} {es : List Expr} {m : En → Hm → Rs (List PV)} {p pos : Pos} (F : FnAt X ca (cf f) f np) (hg : Gl X (Str.ofString f)) (ja : JA ca X (e :: es) m)
    (he : starEach (e :: es) X.env = (false, eval e X.env) :: starEach es X.env) (hpl : (backTo pos (starEach es X.env)).any (·.1) = false) :
    JE ca X (.Call (.Name (Str.ofString f) p) (e :: es) [] pos) fun env h => bindR (m env h) fun vs h1 => if vs.all PV.nb = true then cf f vs h1 else none := by
  intro W tk
  obtain ⟨a, fd, ps, kk, h1, h2, h3, h4, h5⟩ := F.ex
  refine ⟨fun pins s σ H Q I hw => ?_⟩
  refine (pe_callSD (E := fun σ c d H' => W c d σ H') h5 h4 hg h1 h2 h3 .nil (fun σ => passAt tk σ) (ja W tk) F.nd he hpl).run pins s σ H Q I ?_
  obtain ⟨g, oa, env, h, er, sr, f⟩ := hw
  refine stepA er sr f fun ys H1 g1 h1 us e1 sr1 v1 f1 => ?_
  split at f1
  · rename_i hb
    refine ⟨g1, h1, us, sr1, ?_, fin_call f1 (fun c d H' q => q) fun v h' g' H' e s q y r => q y r.vt⟩
    rw [List.append_nil]
    exact v1.vrs hb
  · exact f1.elim
theorem je_call0 {f : String} {np : Nat} {p pos : Pos} (F : FnAt X ca (cf f) f np) (hg : Gl X (Str.ofString f)) :
    JE ca X (.Call (.Name (Str.ofString f) p) [] [] pos) fun _ h => bindR (okR [] h) fun vs h1 => if vs.all PV.nb = true then cf f vs h1 else none := by
  intro W tk
  obtain ⟨a, fd, ps, kk, h1, h2, h3, h4, h5⟩ := F.ex
  refine ⟨fun pins s σ H Q I hw => ?_⟩
  obtain ⟨g, oa, env, h, er, sr, f⟩ := hw
  refine wpAny_Call_Name_kw (ld_glob I hg h1 ?_ F.nd)
  refine PySem.W.callWith_K0 I.kIn h2 (run_fnSD (E := fun σ c d H' => W c d σ H') (us := []) (vs := []) h5 h4 h3 .nil (passAt tk σ) I .nil ?_)
  exact ⟨g, h, [], sr, rfl, fin_call (r := cf _ [] h) f (fun c d H' q => q) fun v h' g' H' e s q y r => q y r.vt⟩
end
end PG


set_option Elab.async false
set_option maxRecDepth 100000
set_option linter.unusedVariables false
/-! PgS6: new lists, what is walked, comprehensions. -/
namespace PG
open PySem L2

section
variable {ca : CA} {cf : Cf} {st : Sta} {X : Cx} {W : WX}
section
variable {K : PySem.W.Frag} {σ : St} {g : G} {H : Hp} {env : En} {h : Hm} {oa : Nat → Option Addr}
theorem step_ok {m : En → Hm → Rs PV} {Q : VK} {v : PV} {h1 : Hm} (er : ER K g H env σ oa) (sr : SR K ca g h H) (hm : m env h = some (.ok v, h1))
    (hQ : ∀ y g1 H1, Ext g H g1 H1 → SR K ca g1 h1 H1 → VT K g1 H1 v y → Q y H1) : rdE K ca W m σ H Q :=
  ⟨g, oa, env, h, er, sr, by rw [hm]; exact fun g' H' e s y r => hQ y g' H' e s r⟩
theorem step_exc {m : En → Hm → Rs PV} {Q : VK} {x : XV} {h1 : Hm} (er : ER K g H env σ oa) (sr : SR K ca g h H) (hm : m env h = some (.exc x, h1))
    (hQ : ∀ g' H' cls d, Ext g H g' H' → SR K ca g' h1 H' → XR K ca g' H' x cls d → W cls d σ H') : rdE K ca W m σ H Q :=
  ⟨g, oa, env, h, er, sr, by rw [hm]; exact hQ⟩
end

/-! ### new lists -/
theorem jl_lof (G : GX ca cf st X) {e : Expr} {m : En → Hm → Rs PV} {p pos : Pos} (hg : st.names.lookup (Str.ofString "list") = some NameKind.globalImplicit) (hf : "list" ∈ st.free) (je : JE ca X e m) (he : starEach [e] X.env = (false, eval e X.env) :: starEach [] X.env) :
    JL ca X (.Call (.Name "list" p) [e] [] pos) fun env h => bindR (m env h) fun v h1 => liftR (asSeq h1 v) h1 := by
  intro W tk
  refine ⟨fun pins s σ H Q I hw => ?_⟩
  refine (pe_callTy call_list_of (G.glo _ hg) (G.free "list" hf) PyProof.Rows.boot_list (pa_cons (je W tk) pa_nil he) (by decide) (by decide) he rfl).run pins s σ H Q I ?_
  obtain ⟨g, oa, env, h, er, sr, f⟩ := hw
  refine step er sr f fun x H1 g1 h1 u e1 sr1 v1 f1 => ?_
  obtain ⟨xs, hx, q⟩ := f1.lift
  obtain ⟨a, vs, rfl, hq, t⟩ := asSeq_rel sr1 v1 hx
  refine ⟨a, vs, rfl, hq, fun l hl => ?_⟩
  exact q (g1.mut l) _ (Ext.mut hl) (sr1.mut hl) l vs (e1.back hl) upd_same (.inr rfl) (sr1.free hl) (t.ext sr1.sane (Ext.mut hl))
theorem vrs_range {K : PySem.W.Frag} {g : G} {H : Hp} (n : Nat) (lo : Int) : VRs K g H ((List.range n).map fun (k : Nat) => PV.int (lo + k)) ((List.range n).map fun (k : Nat) => V.int (lo + k)) := by
  generalize List.range n = l
  induction l with
  | nil => rfl
  | cons k l ih => exact ⟨_, _, rfl, rfl, ih⟩
theorem jl_lrg (G : GX ca cf st X) {e : Expr} {m : En → Hm → Rs PV} {p pos p2 pos2 : Pos} (hg : st.names.lookup (Str.ofString "list") = some NameKind.globalImplicit) (hf : "list" ∈ st.free) (hg2 : st.names.lookup (Str.ofString "range") = some NameKind.globalImplicit) (hf2 : "range" ∈ st.free) (je : JE ca X e m)
    (he : starEach [e] X.env = (false, eval e X.env) :: starEach [] X.env) :
    JL ca X (.Call (.Name "list" p) [.Call (.Name "range" p2) [e] [] pos2] [] pos) fun env h => bindR (m env h) fun v h1 => match v with
      | .int n => if n ≤ 16777216 ∧ 0 ≤ n then okR ((List.range n.toNat).map fun (k : Nat) => .int k) h1 else none
      | _ => none := by
  intro W tk
  refine ⟨fun pins s σ H Q I hw => ?_⟩
  refine (pe_listRg G.calm (G.glo _ hg) (G.free "list" hf) (prg_1 (G.glo _ hg2) (G.free "range" hf2) (je W tk) he) rfl).run pins s σ H Q I ?_
  obtain ⟨g, oa, env, h, er, sr, f⟩ := hw
  refine step er sr f fun x H1 g1 h1 u e1 sr1 v1 f1 => ?_
  cases u <;> first | exact f1.elim | skip
  rename_i n
  cases v1
  have f1 : Fin X.K ca W σ g1 H1 (if n ≤ 16777216 ∧ 0 ≤ n then okR ((List.range n.toNat).map fun (k : Nat) => PV.int k) h1 else none) _ := f1
  split at f1
  · rename_i hc
    refine ⟨n, rfl, RgOk.of_le (Int.le_refl _) hc.1 (by decide) hc.2, fun l hl => ?_⟩
    have t : VRs X.K (g1.mut l) (upd H1 l (.lst (rgV 0 n))) ((List.range n.toNat).map fun (k : Nat) => PV.int k) (rgV 0 n) := by
      have e : rgV 0 n = (List.range n.toNat).map fun (k : Nat) => V.int (0 + k) := by
        unfold rgV
        rw [Int.sub_zero]
      rw [e]
      have t0 := vrs_range (K := X.K) (g := g1.mut l) (H := upd H1 l (.lst ((List.range n.toNat).map fun (k : Nat) => V.int (0 + k)))) n.toNat 0
      have e2 : ((List.range n.toNat).map fun (k : Nat) => PV.int (0 + k)) = (List.range n.toNat).map fun (k : Nat) => PV.int k := List.map_congr_left fun k _ => by rw [Int.zero_add]
      rw [e2] at t0
      exact t0
    exact f1 (g1.mut l) _ (Ext.mut hl) (sr1.mut hl) l _ (e1.back hl) upd_same (.inr rfl) (sr1.free hl) t
  · exact f1.elim

/-! ### what is walked -/
theorem wk_list {K : PySem.W.Frag} {g : G} {H : Hp} {a : Addr} {xs : List PV} {vs : List V} (hq : H a = some (.lst vs)) (hm : ¬ g.M a) (t : VRs K g H xs vs) : Wk K ca g H (Itl K a) xs := by
  intro g' H' e
  have hq' := e.keep a _ hq hm
  have t' := t.extM e
  refine ⟨fun i hi => ⟨vs, .inl (.inl hq'), by rw [t'.length]; exact hi⟩, fun i x hx => ?_⟩
  obtain ⟨b, hb, rb⟩ := t'.get hx
  refine ⟨⟨vs, b, .inl (.inl hq'), hb⟩, fun y H'' hy => ?_⟩
  obtain ⟨rfl, hy⟩ := hy
  have := hy vs (.inl (.inl hq'))
  rw [hb] at this
  cases this
  exact ⟨g', Ext.refl _ _, fun _ s => s, rb⟩
theorem wk_scr {K : PySem.W.Frag} {g : G} {H : Hp} {a : Addr} {xs : List PV} {vs : List V} (hq : ScrAt K g H a vs) (t : VRs K g H xs vs) : Wk K ca g H (Itl K a) xs := by
  intro g' H' e
  have hq' := (hq.extM e).sql
  have t' := t.extM e
  refine ⟨fun i hi => ⟨vs, hq', by rw [t'.length]; exact hi⟩, fun i x hx => ?_⟩
  obtain ⟨b, hb, rb⟩ := t'.get hx
  refine ⟨⟨vs, b, hq', hb⟩, fun y H'' hy => ?_⟩
  obtain ⟨rfl, hy⟩ := hy
  have := hy vs hq'
  rw [hb] at this
  cases this
  exact ⟨g', Ext.refl _ _, fun _ s => s, rb⟩
theorem wk_tup {K : PySem.W.Frag} {g : G} {H : Hp} {a : Addr} {xs : List PV} {vs : List V} (hq : TupAt K H a vs) (t : VRs K g H xs vs) : Wk K ca g H (Itt K a) xs := by
  intro g' H' e
  have hq' := (hq.extM e).sq
  have t' := t.extM e
  refine ⟨fun i hi => ⟨vs, hq', by rw [t'.length]; exact hi⟩, fun i x hx => ?_⟩
  obtain ⟨b, hb, rb⟩ := t'.get hx
  refine ⟨⟨vs, b, hq', hb⟩, fun y H'' hy => ?_⟩
  obtain ⟨rfl, hy⟩ := hy
  have := hy vs hq'
  rw [hb] at this
  cases this
  exact ⟨g', Ext.refl _ _, fun _ s => s, rb⟩
theorem wk_rng {K : PySem.W.Frag} {g : G} {H : Hp} (lo : Int) (n : Nat) : Wk K ca g H (Itr lo n) ((List.range n).map fun (k : Nat) => .int (lo + k)) := by
  intro g' H' e
  refine ⟨fun i hi => ?_, fun i x hx => ?_⟩
  · rw [List.length_map, List.length_range] at hi; exact hi
  · have hi : i < n := by
      have := (List.getElem?_eq_some_iff.mp hx).1
      rw [List.length_map, List.length_range] at this; exact this
    rw [List.getElem?_map, List.getElem?_range hi] at hx
    cases hx
    refine ⟨hi, fun y H'' hy => ?_⟩
    obtain ⟨rfl, rfl⟩ := hy
    exact ⟨g', Ext.refl _ _, fun _ s => s, rfl⟩
theorem wk_str {K : PySem.W.Frag} {g : G} {H : Hp} (z : Str) : Wk K ca g H (Its z) (z.cps.toList.map fun c => .str ⟨#[c]⟩) := by
  intro g' H' e
  refine ⟨fun i hi => ?_, fun i x hx => ?_⟩
  · rw [List.length_map, Array.length_toList] at hi; exact hi
  · have hi : i < z.cps.size := by
      have := (List.getElem?_eq_some_iff.mp hx).1
      rw [List.length_map, Array.length_toList] at this; exact this
    refine ⟨hi, fun y H'' hy => ?_⟩
    obtain ⟨rfl, c, hc, rfl⟩ := hy
    rw [List.getElem?_map, Array.getElem?_toList, hc] at hx
    cases hx
    exact ⟨g', Ext.refl _ _, fun _ s => s, rfl, by show (1 : Nat) ≤ sizeLine; decide⟩
theorem ji_val {tg e : Expr} {m : En → Hm → Rs PV} (je : JE ca X e m) : JI ca X tg e fun env h => bindR (m env h) fun v h1 => liftR (itVal v) h1 := by
  intro W tk
  refine ⟨fun pins s σ H R I hw => ?_⟩
  obtain ⟨g, oa, env, h, er, sr, f⟩ := hw
  rcases hm : m env h with _ | ⟨v | x, h1⟩
  · simp only [hm] at f; exact f.elim
  · simp only [hm] at f
    have f : Fin X.K ca W σ g H (liftR (itVal v) h1) _ := f
    obtain ⟨xs, hx, q⟩ := f.lift
    cases v <;> first | (cases hx; done) | skip
    · cases hx
      refine (pi_str (je W tk)).run pins s σ H R I (step_ok er sr hm fun y g1 H1 e1 sr1 v1 => ?_)
      obtain ⟨rfl, _⟩ := v1
      exact ⟨_, rfl, q g1 H1 e1 sr1 _ (wk_str _)⟩
    · cases hx
      refine (pi_tup (je W tk)).run pins s σ H R I (step_ok er sr hm fun y g1 H1 e1 sr1 v1 => ?_)
      obtain ⟨a, vs, rfl, hq, t⟩ := v1
      exact ⟨a, rfl, ⟨vs, hq.sq⟩, q g1 H1 e1 sr1 _ (wk_tup hq t)⟩
    · cases hx
      refine (pi_list (je W tk)).run pins s σ H R I (step_ok er sr hm fun y g1 H1 e1 sr1 v1 => ?_)
      obtain ⟨a, vs, rfl, hq, hM, t⟩ := v1
      exact ⟨a, rfl, ⟨vs, .inl (.inl hq)⟩, q g1 H1 e1 sr1 _ (wk_list hq hM t)⟩
    · cases hx
      refine (pi_list (je W tk)).run pins s σ H R I (step_ok er sr hm fun y g1 H1 e1 sr1 v1 => ?_)
      obtain ⟨a, vs, rfl, hq, t⟩ := v1
      exact ⟨a, rfl, ⟨vs, hq.sql⟩, q g1 H1 e1 sr1 _ (wk_scr hq t)⟩
  · simp only [hm] at f
    exact (pi_list (je W tk)).run pins s σ H R I (step_exc er sr hm f)
theorem rgItems_some {lo hi : Int} {xs : List PV} (h : rgItems lo hi = some xs) : (-(2 ^ 62) ≤ lo ∧ lo < 2 ^ 62 ∧ -(2 ^ 62) ≤ hi ∧ hi < 2 ^ 62) ∧ xs = (List.range (hi - lo).toNat).map fun (k : Nat) => .int (lo + k) := by
  unfold rgItems at h
  split at h
  · cases h; exact ⟨by assumption, rfl⟩
  · cases h
theorem ji_rg1 (G : GX ca cf st X) {tg a : Expr} {m : En → Hm → Rs PV} {p pos : Pos} (hg : st.names.lookup (Str.ofString "range") = some NameKind.globalImplicit) (hf : "range" ∈ st.free) (je : JE ca X a m) (he : starEach [a] X.env = (false, eval a X.env) :: starEach [] X.env) :
    JI ca X tg (.Call (.Name "range" p) [a] [] pos) fun env h => bindR (m env h) fun v h1 => match v with
      | .int n => liftR (rgItems 0 n) h1
      | _ => none := by
  intro W tk
  refine ⟨fun pins s σ H R I hw => ?_⟩
  refine (pi_range1 (G.glo _ hg) (G.free "range" hf) (pa_cons (je W tk) pa_nil he) he).run pins s σ H R I ?_
  obtain ⟨g, oa, env, h, er, sr, f⟩ := hw
  refine step er sr f fun x H1 g1 h1 u e1 sr1 v1 f1 => ?_
  cases u <;> first | exact f1.elim | skip
  rename_i n
  cases v1
  have f1 : Fin X.K ca W σ g1 H1 (liftR (rgItems 0 n) h1) _ := f1
  obtain ⟨xs, hx, q⟩ := f1.lift
  obtain ⟨⟨_, _, b1, b2⟩, rfl⟩ := rgItems_some hx
  refine ⟨n, rfl, b1, b2, ?_⟩
  have := q.here sr1 _ (wk_rng 0 (n - 0).toNat)
  rwa [Int.sub_zero] at this
theorem ji_rg2 (G : GX ca cf st X) {tg a b : Expr} {ma mb : En → Hm → Rs PV} {p pos : Pos} (hg : st.names.lookup (Str.ofString "range") = some NameKind.globalImplicit) (hf : "range" ∈ st.free) (ja : JE ca X a ma) (jb : JE ca X b mb)
    (he : starEach [a, b] X.env = (false, eval a X.env) :: starEach [b] X.env) (he2 : starEach [b] X.env = (false, eval b X.env) :: starEach [] X.env) :
    JI ca X tg (.Call (.Name "range" p) [a, b] [] pos) fun env h => bindR (ma env h) fun u h1 => bindR (mb env h1) fun v h2 => match u, v with
      | .int m, .int n => liftR (rgItems m n) h2
      | _, _ => none := by
  intro W tk
  refine ⟨fun pins s σ H R I hw => ?_⟩
  refine (pi_range2 (G.glo _ hg) (G.free "range" hf) (pa_cons (ja W tk) (pa_cons (jb W tk) pa_nil he2) he) (by rw [he, he2]; rfl) (by rw [he2]; rfl)).run pins s σ H R I ?_
  obtain ⟨g, oa, env, h, er, sr, f⟩ := hw
  refine step er sr f fun x H1 g1 h1 u e1 sr1 v1 f1 => ?_
  refine step (er.ext sr.sane e1) sr1 f1 fun y H2 g2 h2 v e2 sr2 v2 f2 => ?_
  cases u <;> first | exact f2.elim | skip
  cases v <;> first | exact f2.elim | skip
  rename_i m n
  cases v1; cases v2
  have f2 : Fin X.K ca W σ g2 H2 (liftR (rgItems m n) h2) _ := f2
  obtain ⟨xs, hx, q⟩ := f2.lift
  obtain ⟨b, rfl⟩ := rgItems_some hx
  exact ⟨m, n, rfl, b, q.here sr2 _ (wk_rng m _)⟩

/-! ### targets -/
def gPt (K : PySem.W.Frag) : Pt → TG
  | .nm i => gName i
  | .tp is => gTup K is.length (gTps is)
where
  gTps : List Nat → TGs
  | [] => gNil
  | i :: is => gCons (gName i) (gTps is)
section
variable {K : PySem.W.Frag} {g : G} {H : Hp}
theorem tps_ok : ∀ {is : List Nat} {env env' : En} {σ : St} {oa : Nat → Option Addr} {xs : List PV} {vs : List V} {Q : St → Hp → Prop}, ER K g H env σ oa → VRs K g H xs vs → tpSet env is xs = some env' →
    (∀ σ' oa', ER K g H env' σ' oa' → (∀ js : List Nat, (∀ i ∈ is, i ∈ js) → L2.wipe σ' js = L2.wipe σ js) → (∀ i a, oa' i = some a → oa i = some a) → Q σ' H) → gPt.gTps is vs σ H Q
  | [], env, env', σ, oa, xs, vs, Q, er, t, e, k => by
    cases xs with
    | nil => cases e; cases t; exact ⟨rfl, k σ oa er (fun _ _ => rfl) fun _ _ q => q⟩
    | cons x xs => cases e
  | i :: is, env, env', σ, oa, xs, vs, Q, er, t, e, k => by
    cases xs with
    | nil => cases e
    | cons x xs =>
      obtain ⟨y, ys, rfl, r, t⟩ := t
      have e : (if i < env.length then tpSet (env.set i (.val x)) is xs else none) = some env' := e
      split at e
      · rename_i hi
        refine ⟨y, ys, rfl, ?_⟩
        show gPt.gTps is ys (σ.set i (some y)) H Q
        refine tps_ok (er.setVal hi r) t e fun σ' oa' er' hw ho => k σ' oa' er' (fun js hj => ?_) fun j a q => ?_
        · rw [hw js fun i hi => hj i (List.mem_cons_of_mem _ hi)]
          exact wipe_set (hj i (List.mem_cons_self ..))
        · have := ho j a q
          by_cases hji : j = i
          · rw [if_pos hji] at this; cases this
          · rw [if_neg hji] at this; exact this
      · cases e
where
  wipe_set {σ : St} {i : Nat} {z : Option V} : ∀ {js : List Nat}, i ∈ js → L2.wipe (σ.set i z) js = L2.wipe σ js
  | j :: js, h => by
    show (L2.wipe (σ.set i z) js).set j none = (L2.wipe σ js).set j none
    by_cases hj : i ∈ js
    · rw [wipe_set hj]
    · have : i = j := by
        rcases List.mem_cons.mp h with q | q
        · exact q
        · exact absurd q hj
      subst this
      rw [wipe_out hj, List.set_set]
  wipe_out {σ : St} {i : Nat} {z : Option V} : ∀ {js : List Nat}, i ∉ js → L2.wipe (σ.set i z) js = (L2.wipe σ js).set i z
  | [], _ => rfl
  | j :: js, h => by
    show (L2.wipe (σ.set i z) js).set j none = ((L2.wipe σ js).set j none).set i z
    rw [wipe_out fun q => h (List.mem_cons_of_mem _ q), List.set_comm _ _ fun q => h (by rw [q]; exact List.mem_cons_self ..)]
theorem tpSet_len : ∀ {is : List Nat} {env env' : En} {xs : List PV}, tpSet env is xs = some env' → xs.length = is.length
  | [], _, _, [], _ => rfl
  | [], _, _, _ :: _, e => by cases e
  | _ :: _, _, _, [], e => by cases e
  | i :: is, env, env', x :: xs, e => by
    have e : (if i < env.length then tpSet (env.set i (.val x)) is xs else none) = some env' := e
    split at e
    · rw [List.length_cons, List.length_cons, tpSet_len e]
    · cases e
theorem pt_ok {p : Pt} {env env' : En} {σ : St} {oa : Nat → Option Addr} {x : PV} {y : V} {Q : St → Hp → Prop} (er : ER K g H env σ oa) (r : VT K g H x y) (e : ptSet env p x = some env')
    (k : ∀ σ' oa', ER K g H env' σ' oa' → (∀ js : List Nat, (∀ i ∈ ptSlots p, i ∈ js) → L2.wipe σ' js = L2.wipe σ js) → (∀ i a, oa' i = some a → oa i = some a) → Q σ' H) : gPt K p y σ H Q := by
  cases p with
  | nm i =>
    have e : (if i < env.length ∧ x.nb = true then some (env.set i (.val x)) else none) = some env' := e
    split at e
    · rename_i hc
      cases e
      refine k _ _ (er.setVal hc.1 (r.vr hc.2)) (fun js hj => tps_ok.wipe_set (hj i (by simp [ptSlots]))) fun j a q => ?_
      by_cases hji : j = i
      · rw [if_pos hji] at q; cases q
      · rw [if_neg hji] at q; exact q
    · cases e
  | tp is =>
    cases x <;> first | (cases e; done) | skip
    rename_i xs
    have e : tpSet env is xs = some env' := e
    obtain ⟨a, vs, rfl, hq, t⟩ := r
    exact ⟨a, vs, rfl, hq.sq, by rw [t.length]; exact tpSet_len e, tps_ok er t e k⟩
end
end
end PG


set_option Elab.async false
set_option maxRecDepth 100000
set_option linter.unusedVariables false
/-! PgS7: list comprehensions. -/
namespace PG
open PySem L2

section
variable {ca : CA} {cf : Cf} {st : Sta} {X : Cx}
abbrev W0 : WX := fun _ _ _ _ => False
theorem lcLoop_cons {env : En} {p : Pt} {c : En → Hm → Rs Bool} {e : En → Hm → Rs PV} {x : PV} {xs : List PV} {h : Hm} {acc : List PV} :
    lcLoop env p c e (x :: xs) h acc = (match ptSet env p x with
    | none => none
    | some env' => bindR (c env' h) fun b h1 =>
      if b = true then bindR (e env' h1) fun v h2 => if v.nb = true ∧ acc.length < sizeLine then lcLoop env p c e xs h2 (acc ++ [v]) else none
      else lcLoop env p c e xs h1 acc) := rfl
theorem noX_some {α : Type} {r : Rs α} {x : Ex α × Hm} (h : noX r = some x) : ∃ a h', x = (.ok a, h') ∧ r = some (.ok a, h') := by
  rcases r with _ | ⟨a | e, h'⟩
  · cases h
  · cases h; exact ⟨a, h', rfl, rfl⟩
  · cases h
theorem bindR_ok {α β : Type} {r : Rs α} {f : α → Hm → Rs β} {b : β} {h : Hm} (e : bindR r f = some (.ok b, h)) : ∃ a h1, r = some (.ok a, h1) ∧ f a h1 = some (.ok b, h) := by
  rcases r with _ | ⟨a | x, h1⟩
  · cases e
  · exact ⟨a, h1, rfl, e⟩
  · cases e
/-- the state within: the new list stands at D, holding what is made so far -/
structure LcS (K : PySem.W.Frag) (ca : CA) (g1 : G) (H1 : Hp) (D : Addr) (H' : Hp) (g' : G) (h' : Hm) (acc : List PV) : Prop where
  ext : Ext g1 H1 g' H'
  sr : SR K ca g' h' H'
  mt : g'.M D
  out : D ∉ g'.φ
  lst : ∃ vs, H' D = some (.lst vs) ∧ VRs K g' H' acc vs
theorem LcS.step {K : PySem.W.Frag} {g1 : G} {H1 : Hp} {D : Addr} {H' : Hp} {g' : G} {h' : Hm} {acc : List PV} (s : LcS K ca g1 H1 D H' g' h' acc) {g2 : G} {H2 : Hp} {h2 : Hm} (e : Ext g' H' g2 H2) (sr : SR K ca g2 h2 H2) : LcS K ca g1 H1 D H2 g2 h2 acc := by
  obtain ⟨vs, hD, t⟩ := s.lst
  exact ⟨s.ext.trans e, sr, e.oldM D s.mt (by rw [hD]; simp), e.fresh hD s.out, vs, e.keep D _ hD s.out, t.ext s.sr.sane e⟩
theorem LcS.add {K : PySem.W.Frag} {g1 : G} {H1 : Hp} {D : Addr} {H' : Hp} {g' : G} {h' : Hm} {acc : List PV} (s : LcS K ca g1 H1 D H' g' h' acc) (hD1 : H1 D = none) {v : PV} {y : V} (r : VR K g' H' v y) {vs : List V} (hD : H' D = some (.lst vs)) :
    LcS K ca g1 H1 D (upd H' D (.lst (vs ++ [y]))) g' h' (acc ++ [v]) := by
  obtain ⟨vs', hD', t⟩ := s.lst
  rw [hD] at hD'
  cases hD'
  have eM : ExtM g' H' g' (upd H' D (.lst (vs ++ [y]))) := ⟨⟨[], by simp⟩, fun a h => .inl h, fun a o h hm => by rw [upd_ne (fun q : a = D => hm (by rw [q]; exact s.mt))]; exact h, fun a xs h => by
    rw [upd_ne fun q => by rw [q, hD] at h; cases h]; exact h⟩
  refine ⟨⟨s.ext.pre, s.ext.newφ, s.ext.newM, s.ext.oldM, fun a o h hn => ?_, fun a hm hx => ?_⟩, ?_, s.mt, s.out, _, upd_same, (t.append (VRs.single r)).extM eM⟩
  · rw [upd_ne fun q => by rw [q, hD1] at h; cases h]; exact s.ext.keep a o h hn
  · by_cases q : a = D
    · rw [q, upd_same]; simp
    · rw [upd_ne q]; exact s.ext.stays a hm hx
  · exact s.sr.extM eM rfl s.sr.mem fun a ha => upd_ne fun q => s.out (q ▸ ha)
theorem lc_read {K : PySem.W.Frag} {W : WX} {own : List (Str × Nat)} {p : Pt} {mi : En → Hm → Rs (List PV)} {mc : En → Hm → Rs Bool} {me : En → Hm → Rs PV} (ho : own.map (·.2) = ptSlots p)
    (σ : St) (H : Hp) (Q : VK) (hw : rdL K ca W (fun env h => bindR (mi env h) fun xs h1 => noX (lcLoop (wipeE env (ptSlots p)) p mc me xs h1 [])) σ H Q) : tLc (rdI K ca W mi) (gPt K p) (rdT K ca W0 mc) (rdE K ca W0 me) (own.map (·.2)) σ H Q := by
  obtain ⟨g, oa, env, h, er, sr, f⟩ := hw
  refine stepI er sr f fun J H1 g1 h1 xs e1 sr1 wk f1 => ?_
  rw [ho]
  intro D hD
  obtain ⟨ys, h2, hl⟩ : ∃ ys h2, lcLoop (wipeE env (ptSlots p)) p mc me xs h1 [] = some (.ok ys, h2) := by
    rcases hr : noX (lcLoop (wipeE env (ptSlots p)) p mc me xs h1 []) with _ | x
    · simp only [hr] at f1; exact f1.elim
    · obtain ⟨a, h', _, q⟩ := noX_some hr
      exact ⟨a, h', q⟩
  simp only [hl, noX] at f1
  obtain ⟨oa', erw⟩ := (er.ext sr.sane e1).wipe (ptSlots p)
  refine ⟨fun i m H' => m = xs.length - i ∧ i ≤ xs.length ∧ ∃ g' h' acc, LcS K ca g1 H1 D H' g' h' acc ∧ lcLoop (wipeE env (ptSlots p)) p mc me (xs.drop i) h' acc = some (.ok ys, h2), ⟨xs.length, by simp, Nat.zero_le _, g1.mut D, h1, [], ⟨Ext.mut hD, sr1.mut hD, .inr rfl, sr1.free hD, [], upd_same, rfl⟩, by simpa using hl⟩, ?_⟩
  rintro i m H' ⟨rfl, hi, g', h', acc, S, hl'⟩
  have eM := S.ext.m sr1.sane
  obtain ⟨wstop, wgo⟩ := wk g' H' eM
  by_cases hlt : i < xs.length
  · obtain ⟨go, yl⟩ := wgo i xs[i] (List.getElem?_eq_getElem hlt)
    rw [List.drop_eq_getElem_cons hlt, lcLoop_cons] at hl'
    refine .inr ⟨go, fun H'' => i + 1 ≤ xs.length ∧ ∃ g'' h'' acc, LcS K ca g1 H1 D H'' g'' h'' acc ∧ lcLoop (wipeE env (ptSlots p)) p mc me (xs.drop (i + 1)) h'' acc = some (.ok ys, h2),
      fun H'' ⟨a, b⟩ => ⟨xs.length - (i + 1), by omega, rfl, a, b⟩, fun y H'' hy => ?_⟩
    obtain ⟨g2, e2, sr2, r2⟩ := yl y H'' hy
    have S2 := S.step e2 (sr2 h' S.sr)
    split at hl'
    · cases hl'
    · rename_i env' hpt
      refine pt_ok (erw.ext sr1.sane S2.ext) r2.vt hpt fun σ' oa2 er2 hwp hoo => ⟨?_, ?_⟩
      · rw [hwp (ptSlots p) fun i hi => hi]
        exact wipe_wipe _ _
      · obtain ⟨b, h3, hcb, hl3⟩ := bindR_ok hl'
        refine ⟨g2, oa2, env', h', er2, S2.sr, ?_⟩
        rw [hcb]
        intro g3 H3 e3 sr3
        have S3 := S2.step e3 sr3
        have er3 := er2.ext S2.sr.sane e3
        cases b with
        | false => exact ⟨hlt, g3, h3, acc, S3, hl3⟩
        | true =>
          obtain ⟨v, h4, hev, hl4⟩ := bindR_ok hl3
          have hl4 : (if v.nb = true ∧ acc.length < sizeLine then lcLoop (wipeE env (ptSlots p)) p mc me (xs.drop (i + 1)) h4 (acc ++ [v]) else none) = some (.ok ys, h2) := hl4
          split at hl4
          · rename_i hnb
            refine step_ok er3 sr3 hev fun z g4 H4 e4 sr4 rz => ?_
            have S4 := S3.step e4 sr4
            obtain ⟨vs, hDv, t⟩ := S4.lst
            exact ⟨vs, hDv, by rw [t.length]; exact hnb.2, hlt, g4, h4, acc ++ [v], S4.add hD (rz.vr hnb.1) hDv, hl4⟩
          · cases hl4
  · have hi' : i = xs.length := by omega
    subst hi'
    refine .inl ⟨wstop _ (Nat.le_refl _), ?_⟩
    rw [List.drop_length] at hl'
    cases hl'
    obtain ⟨vs, hDv, t⟩ := S.lst
    exact f1 g' H' S.ext S.sr D vs (e1.back hD) hDv S.mt S.out t
where
  wipe_wipe (σ : St) : ∀ js : List Nat, L2.wipe (L2.wipe σ js) js = L2.wipe σ js := by
    have out : ∀ (js is : List Nat) (σ : St), L2.wipe (L2.wipe σ is) js = L2.wipe (L2.wipe σ js) is := by
      intro js
      induction js with
      | nil => intro is σ; rfl
      | cons j js ih =>
        intro is σ
        show (L2.wipe (L2.wipe σ is) js).set j none = L2.wipe ((L2.wipe σ js).set j none) is
        rw [ih]
        generalize L2.wipe σ js = τ
        induction is with
        | nil => rfl
        | cons i is ih2 =>
          show ((L2.wipe τ is).set i none).set j none = (L2.wipe (τ.set j none) is).set i none
          rw [← ih2]
          by_cases q : i = j
          · subst q; rfl
          · exact List.set_comm _ _ q
    intro js
    induction js with
    | nil => rfl
    | cons j js ih =>
      show (L2.wipe ((L2.wipe σ js).set j none) js).set j none = (L2.wipe σ js).set j none
      by_cases hj : j ∈ js
      · rw [tps_ok.wipe_set hj, ih]
      · rw [tps_ok.wipe_out hj, List.set_set, ih]
theorem jl_cmp {tg iter elt : Expr} {ifs : List Expr} {scope : Scope} {own : List (Str × Nat)} {pos : Pos} {p : Pt} {mi : En → Hm → Rs (List PV)} {mc : En → Hm → Rs Bool} {me : En → Hm → Rs PV}
    (hc : X.calm = true) (hN : X.N.Nodup) (ji : JI ca X tg iter mi) (ok : BlkOk X.N X.env.scope scope own) (ho : own.map (·.2) = ptSlots p)
    (hg : ∀ (s : Shared) (H : Hp) (C : Addr) (cl : List (Str × Addr)) (fp : List Addr), PG (X.blk s H scope (compEnvC scope cl C X.env) fp) tg (gPt X.K p))
    (ht : ∀ (s : Shared) (H : Hp) (C : Addr) (cl : List (Str × Addr)) (fp : List Addr), PTs (X.blk s H scope (compEnvC scope cl C X.env) fp) ifs (rdT X.K ca W0 mc))
    (he : ∀ (s : Shared) (H : Hp) (C : Addr) (cl : List (Str × Addr)) (fp : List Addr), PE (X.blk s H scope (compEnvC scope cl C X.env) fp) elt (rdE X.K ca W0 me))
    (hs : ∀ x, foldedSetIterable iter X.env x = pure x) :
    JL ca X (.ListComp elt [⟨tg, iter, ifs, 0⟩] scope pos) fun env h => bindR (mi env h) fun xs h1 => noX (lcLoop (wipeE env (ptSlots p)) p mc me xs h1 []) := fun W tk =>
  PE_imp (pe_lc hc hN (ji W tk) ok hg ht he hs) (lc_read ho)
theorem ps_setCmp {i : Nat} {y : Str} {py spos : Pos} {tg iter elt : Expr} {ifs : List Expr} {scope : Scope} {own : List (Str × Nat)} {pos : Pos} {p : Pt} {mi : En → Hm → Rs (List PV)} {mc : En → Hm → Rs Bool} {me : En → Hm → Rs PV}
    (hc : X.calm = true) (hN : X.N.Nodup) (hy : X.N[i]? = some y) (hyl : X.env.scope.names.lookup y = some .local) (hsw : swapsWith (.ListComp elt [⟨tg, iter, ifs, 0⟩] scope pos) (some (.Name y py)) spos.line X.env = pure true)
    (ji : JI ca X tg iter mi) (ok : BlkOk X.N X.env.scope scope own) (ho : own.map (·.2) = ptSlots p)
    (hg : ∀ (s : Shared) (H : Hp) (C : Addr) (cl : List (Str × Addr)) (fp : List Addr), PG (X.blk s H scope (compEnvC scope cl C X.env) fp) tg (gPt X.K p))
    (ht : ∀ (s : Shared) (H : Hp) (C : Addr) (cl : List (Str × Addr)) (fp : List Addr), PTs (X.blk s H scope (compEnvC scope cl C X.env) fp) ifs (rdT X.K ca W0 mc))
    (he : ∀ (s : Shared) (H : Hp) (C : Addr) (cl : List (Str × Addr)) (fp : List Addr), PE (X.blk s H scope (compEnvC scope cl C X.env) fp) elt (rdE X.K ca W0 me))
    (hs : ∀ x, foldedSetIterable iter X.env x = pure x) {W : WX} (tk : Takes X W) :
    PS X (.Assign [.Name y py] (.ListComp elt [⟨tg, iter, ifs, 0⟩] scope pos) spos) (tAsg (rdL X.K ca W fun env h => bindR (mi env h) fun xs h1 => noX (lcLoop (wipeE env (ptSlots p)) p mc me xs h1 [])) (gName i)) :=
  PS_imp (ps_setLc hc hN hy hyl hsw (ji W tk) ok hg ht he hs) fun D σ H w => lc_read ho σ H _ w
end
end PG


set_option Elab.async false
set_option maxRecDepth 100000
set_option linter.unusedVariables false
/-! PgS8: statements. -/
namespace PG
open PySem L2

theorem ExtM.trans {g g1 g2 : G} {H H1 H2 : Hp} (a : ExtM g H g1 H1) (b : ExtM g1 H1 g2 H2) : ExtM g H g2 H2 := by
  have newM : ∀ x, g2.M x → g.M x ∨ H x = none := fun x hx => by
    rcases b.newM x hx with q | q
    · exact a.newM x q
    · cases r : H x with
      | none => exact .inr rfl
      | some o =>
        by_cases m : g.M x
        · exact .inl m
        · rw [a.keep x o r m] at q; cases q
  refine ⟨?_, newM, fun x o h m => ?_, fun x xs h => b.tups x xs (a.tups x xs h)⟩
  · obtain ⟨r, e⟩ := a.pre; obtain ⟨r', e'⟩ := b.pre
    exact ⟨r ++ r', by rw [e', e, List.append_assoc]⟩
  · refine b.keep x o (a.keep x o h m) fun q => ?_
    rcases a.newM x q with z | z
    · exact m z
    · rw [z] at h; cases h

/-- where a def's body began; what stays from marks on -/
structure Bs where
  g : G
  H : Hp
  marks : List (G × Hp)
structure FR (K : PySem.W.Frag) (ca : CA) (b : Bs) (env : En) (h : Hm) (σ : St) (H : Hp) (g : G) (oa : Nat → Option Addr) : Prop where
  er : ER K g H env σ oa
  sr : SR K ca g h H
  ext : Ext b.g b.H g H
  own : ∀ i a, oa i = some a → b.H a = none
  mks : ∀ m, m ∈ b.marks → ExtM m.1 m.2 g H
section
variable {K : PySem.W.Frag} {ca : CA} {b : Bs} {env : En} {h : Hm} {σ : St} {H : Hp} {g : G} {oa : Nat → Option Addr}
theorem FR.step (f : FR K ca b env h σ H g oa) {g' : G} {H' : Hp} {h' : Hm} (e : Ext g H g' H') (s : SR K ca g' h' H') : FR K ca b env h' σ H' g' oa :=
  ⟨f.er.ext f.sr.sane e, s, f.ext.trans e, f.own, fun m hm => (f.mks m hm).trans (e.m f.sr.sane)⟩
theorem FR.slots (f : FR K ca b env h σ H g oa) {env' : En} {σ' : St} {oa' : Nat → Option Addr} (er : ER K g H env' σ' oa') (ho : ∀ i a, oa' i = some a → oa i = some a) : FR K ca b env' h σ' H g oa' :=
  ⟨er, f.sr, f.ext, fun i a q => f.own i a (ho i a q), f.mks⟩
theorem FR.mark (f : FR K ca b env h σ H g oa) : FR K ca { b with marks := (g, H) :: b.marks } env h σ H g oa :=
  ⟨f.er, f.sr, f.ext, f.own, fun m hm => by
    rcases List.mem_cons.mp hm with q | q
    · rw [q]; exact ExtM.refl _ _
    · exact f.mks m q⟩
theorem FR.unmark {x : G × Hp} (f : FR K ca { b with marks := x :: b.marks } env h σ H g oa) : FR K ca b env h σ H g oa :=
  ⟨f.er, f.sr, f.ext, f.own, fun m hm => f.mks m (List.mem_cons_of_mem _ hm)⟩
/-- a list that is owned is changed -/
theorem FR.put (f : FR K ca b env h σ H g oa) {i : Nat} {a : Addr} {xs' : List PV} {vs vs' : List V} (ho : oa i = some a) (hσ : σ[i]? = some (some (.ref a))) (hH : H a = some (.lst vs)) (t : VRs K g H xs' vs') (hi : i < env.length) :
    FR K ca b (env.set i (.own xs')) h σ (upd H a (.lst vs')) g oa := by
  obtain ⟨m1, m2, m3⟩ := f.er.mem i a ho
  have eM : ExtM g H g (upd H a (.lst vs')) := ⟨⟨[], by simp⟩, fun x q => .inl q, fun x o q m => by rw [upd_ne (fun z : x = a => m (by rw [z]; exact m1))]; exact q,
    fun x xs q => by rw [upd_ne (fun z : x = a => by rw [z, hH] at q; cases q)]; exact q⟩
  have ne : ∀ x, b.H x ≠ none → x ≠ a := fun x q z => q (by rw [z]; exact f.own i a ho)
  refine ⟨⟨by simpa using f.er.len, fun j s y h1 h2 => ?_, fun j hj => f.er.out j (by simpa using hj), f.er.inj, fun j c q => ?_⟩, f.sr.extM eM rfl f.sr.mem fun x hx => upd_ne fun z => m2 (z ▸ hx), ⟨f.ext.pre, f.ext.newφ, f.ext.newM, f.ext.oldM, fun x o q hn => ?_, fun x hx q => ?_⟩, f.own, fun m hm => (f.mks m hm).trans eM⟩
  · by_cases e : j = i
    · subst e
      rw [List.getElem?_set_self hi] at h1
      rw [hσ] at h2
      cases h1; cases h2
      exact ⟨a, vs', rfl, ho, upd_same, t.extM eM⟩
    · rw [List.getElem?_set_ne (Ne.symm e)] at h1
      have := f.er.sl j s y h1 h2
      cases s with
      | no => exact this
      | val x =>
        obtain ⟨q, z, q2, r⟩ := this
        exact ⟨q, z, q2, r.extM eM⟩
      | own ys =>
        obtain ⟨c, ws, q1, q2, q3, r⟩ := this
        exact ⟨c, ws, q1, q2, by rw [upd_ne (fun z : c = a => e (f.er.inj j i a (by rw [← z]; exact q2) ho))]; exact q3, r.extM eM⟩
      | ownd ys =>
        obtain ⟨c, ws, q1, q2, q3, r⟩ := this
        exact ⟨c, ws, q1, q2, by rw [upd_ne (fun z : c = a => e (f.er.inj j i a (by rw [← z]; exact q2) ho))]; exact q3, r.extM eM⟩
  · obtain ⟨n1, n2, n3⟩ := f.er.mem j c q
    refine ⟨n1, n2, ?_⟩
    by_cases z : c = a
    · rw [z, upd_same]; simp
    · rw [upd_ne z]; exact n3
  · rw [upd_ne (ne x (by rw [q]; simp))]; exact f.ext.keep x o q hn
  · rw [upd_ne (ne x q)]; exact f.ext.stays x hx q
/-- a new list becomes a slot's own -/
theorem FR.take (f : FR K ca b env h σ H g oa) {g' : G} {H' : Hp} {h' : Hm} {i : Nat} {p : Addr} {xs : List PV} {vs : List V} (e : Ext g H g' H') (s : SR K ca g' h' H') (hp : H p = none) (hp1 : H' p = some (.lst vs)) (hM : g'.M p) (hφ : p ∉ g'.φ) (t : VRs K g' H' xs vs) (hi : i < env.length) :
    FR K ca b (env.set i (.own xs)) h' (σ.set i (some (.ref p))) H' g' (fun j => if j = i then some p else oa j) := by
  have f' := f.step e s
  have np : ∀ j a, oa j = some a → a ≠ p := fun j a q z => (f.er.mem j a q).2.2 (z ▸ hp)
  refine ⟨⟨by simpa using f.er.len, fun j s y h1 h2 => ?_, fun j hj => ?_, fun j k a h1 h2 => ?_, fun j a q => ?_⟩, s, f'.ext, fun j a q => ?_, f'.mks⟩
  · by_cases e1 : j = i
    · subst e1
      rw [List.getElem?_set_self hi] at h1
      rw [List.getElem?_set_self (by rw [← f.er.len]; exact hi)] at h2
      cases h1; cases h2
      exact ⟨p, vs, rfl, by simp, hp1, t⟩
    · rw [List.getElem?_set_ne (Ne.symm e1)] at h1 h2
      rw [if_neg e1]
      exact f'.er.sl j s y h1 h2
  · rw [List.length_set] at hj
    rw [if_neg (by omega)]; exact f.er.out j hj
  · by_cases e1 : j = i
    · by_cases e2 : k = i
      · rw [e1, e2]
      · rw [if_pos e1] at h1; rw [if_neg e2] at h2; cases h1
        exact absurd rfl (np k _ h2)
    · by_cases e2 : k = i
      · rw [if_neg e1] at h1; rw [if_pos e2] at h2; cases h2
        exact absurd rfl (np j _ h1)
      · rw [if_neg e1] at h1; rw [if_neg e2] at h2
        exact f.er.inj j k a h1 h2
  · by_cases e1 : j = i
    · rw [if_pos e1] at q; cases q
      exact ⟨hM, hφ, by rw [hp1]; simp⟩
    · rw [if_neg e1] at q; exact f'.er.mem j a q
  · by_cases e1 : j = i
    · rw [if_pos e1] at q; cases q
      exact f.ext.back hp
    · rw [if_neg e1] at q; exact f.own j a q
/-- an own list is from now on never to change -/
theorem FR.freeze (f : FR K ca b env h σ H g oa) {i : Nat} {xs : List PV} (hi : env[i]? = some (.own xs)) : ∃ g' oa', FR K ca b (env.set i (.val (.lst xs))) h σ H g' oa' := by
  obtain ⟨y, hy, a, vs, rfl, ho, hH, t⟩ := f.er.at hi
  obtain ⟨m1, m2, m3⟩ := f.er.mem i a ho
  have hb := f.own i a ho
  have eM : ExtM g H (g.fix a) H := ⟨⟨[], by simp⟩, fun x q => .inl q.1, fun x o q _ => q, fun x xs q => q⟩
  have hil : i < env.length := (List.getElem?_eq_some_iff.mp hi).1
  refine ⟨g.fix a, fun j => if j = i then none else oa j, ⟨⟨by simpa using f.er.len, fun j s y h1 h2 => ?_, fun j hj => ?_, fun j k c h1 h2 => ?_, fun j c q => ?_⟩, f.sr.toFix m2, f.ext.toFix hb, fun j c q => ?_, fun m hm => (f.mks m hm).trans eM⟩⟩
  · by_cases e1 : j = i
    · subst e1
      rw [List.getElem?_set_self hil] at h1
      rw [hy] at h2
      cases h1; cases h2
      exact ⟨by simp, .ref a, rfl, a, vs, rfl, hH, fun q => q.2 rfl, t.toFix⟩
    · rw [List.getElem?_set_ne (Ne.symm e1)] at h1
      rw [if_neg e1]
      have := f.er.sl j s y h1 h2
      cases s with
      | no => exact this
      | val x =>
        obtain ⟨q, z, q2, r⟩ := this
        exact ⟨q, z, q2, r.extM eM⟩
      | own ys =>
        obtain ⟨c, ws, q1, q2, q3, r⟩ := this
        exact ⟨c, ws, q1, q2, q3, r.extM eM⟩
      | ownd ys =>
        obtain ⟨c, ws, q1, q2, q3, r⟩ := this
        exact ⟨c, ws, q1, q2, q3, r.extM eM⟩
  · rw [List.length_set] at hj
    by_cases e1 : j = i
    · simp [e1]
    · rw [if_neg e1]; exact f.er.out j hj
  · by_cases e1 : j = i
    · rw [if_pos e1] at h1; cases h1
    · by_cases e2 : k = i
      · rw [if_pos e2] at h2; cases h2
      · rw [if_neg e1] at h1; rw [if_neg e2] at h2
        exact f.er.inj j k c h1 h2
  · by_cases e1 : j = i
    · rw [if_pos e1] at q; cases q
    · rw [if_neg e1] at q
      obtain ⟨n1, n2, n3⟩ := f.er.mem j c q
      exact ⟨⟨n1, fun z => e1 (f.er.inj j i a (by rw [← z]; exact q) ho)⟩, n2, n3⟩
  · by_cases e1 : j = i
    · rw [if_pos e1] at q; cases q
    · rw [if_neg e1] at q; exact f.own j c q
/-- a cell is changed -/
theorem FR.cell (f : FR K ca b env h σ H g oa) {n : Nat} {a : Addr} {xs' : List PV} {vs vs' : List V} (hn : g.φ[n]? = some a) (hH : H a = some (.lst vs)) (t : VRs K g H xs' vs') : FR K ca b env (h.set n (.lst xs')) σ (upd H a (.lst vs')) g oa := by
  have hm : a ∈ g.φ := List.mem_of_getElem? hn
  have eM : ExtM g H g (upd H a (.lst vs')) := ⟨⟨[], by simp⟩, fun x q => .inl q, fun x o q m => by rw [upd_ne (fun z : x = a => m (by rw [z]; exact f.sr.mem a hm))]; exact q,
    fun x xs q => by rw [upd_ne (fun z : x = a => by rw [z, hH] at q; cases q)]; exact q⟩
  have e : Ext g H g (upd H a (.lst vs')) := ⟨⟨[], by simp⟩, fun x q => .inl q, fun x q => .inl q, fun x q _ => q, fun x o q hx => by rw [upd_ne (fun z : x = a => hx (by rw [z]; exact hm))]; exact q,
    fun x hx q => by
      by_cases z : x = a
      · rw [z, upd_same]; simp
      · rw [upd_ne z]; exact q⟩
  refine f.step e ⟨by simpa using f.sr.len, f.sr.nd, f.sr.mem, fun i c o h1 h2 => ?_⟩
  by_cases z : i = n
  · subst z
    rw [hn] at h1; cases h1
    have hl : i < h.length := by rw [← f.sr.len]; exact (List.getElem?_eq_some_iff.mp hn).1
    rw [List.getElem?_set_self hl] at h2; cases h2
    exact ⟨vs', upd_same, t.extM eM⟩
  · rw [List.getElem?_set_ne (Ne.symm z)] at h2
    refine (f.sr.obj i c o h1 h2).extM eM (upd_ne fun q => ?_)
    subst q
    obtain ⟨l1, e1⟩ := List.getElem?_eq_some_iff.mp h1
    obtain ⟨l2, e2⟩ := List.getElem?_eq_some_iff.mp hn
    exact z ((List.getElem_inj f.sr.nd).mp (e1.trans e2.symm))
end

/-- how a statement may end -/
def FinS (K : PySem.W.Frag) (ca : CA) (W : WX) (b : Bs) (r : Rt) (D : Ends) : Prop :=
  match r with
  | none => False
  | some (.nx, env', h') => ∀ σ' H' g oa, FR K ca b env' h' σ' H' g oa → D.nx σ' H'
  | some (.bk, env', h') => ∀ σ' H' g oa, FR K ca b env' h' σ' H' g oa → D.bk σ' H'
  | some (.ct, env', h') => ∀ σ' H' g oa, FR K ca b env' h' σ' H' g oa → D.ct σ' H'
  | some (.rt v, _, h') => ∀ g' H' y, Ext b.g b.H g' H' → SR K ca g' h' H' → VR K g' H' v y → D.rt y H'
  | some (.xc x, env', h') => ∀ σ' H' g oa cls d, FR K ca b env' h' σ' H' g oa → XR K ca g H' x cls d → W cls d σ' H'
def rdS (K : PySem.W.Frag) (ca : CA) (W : WX) (b : Bs) (m : En → Hm → Rt) : TS := fun D σ H => ∃ g oa env h, FR K ca b env h σ H g oa ∧ FinS K ca W b (m env h) D
def JS (ca : CA) (X : Cx) (s : Stmt) (m : En → Hm → Rt) : Prop := ∀ W b, Takes X W → PS X s (rdS X.K ca W b m)
def JB (ca : CA) (X : Cx) (s : List Stmt) (m : En → Hm → Rt) : Prop := ∀ W b, Takes X W → PSs X s (rdS X.K ca W b m)

section
variable {ca : CA} {cf : Cf} {st : Sta} {X : Cx} {W : WX} {K : PySem.W.Frag}
/-- an expression within a statement -/
theorem sstep {b : Bs} {env : En} {h : Hm} {σ : St} {H : Hp} {g : G} {oa : Nat → Option Addr} {m : En → Hm → Rs PV} {k : PV → Hm → Rt} {D : Ends} {Q : VK} (fr : FR K ca b env h σ H g oa) (f : FinS K ca W b (bindS (m env h) env k) D)
    (hQ : ∀ y H1 g1 h1 v, Ext g H g1 H1 → FR K ca b env h1 σ H1 g1 oa → VT K g1 H1 v y → FinS K ca W b (k v h1) D → Q y H1) : rdE K ca W m σ H Q := by
  refine ⟨g, oa, env, h, fr.er, fr.sr, ?_⟩
  rcases hm : m env h with _ | ⟨v | x, h1⟩
  · rw [hm] at f; exact f
  · rw [hm] at f
    exact fun g' H' e s y r => hQ y H' g' h1 v e (fr.step e s) r f
  · rw [hm] at f
    exact fun g' H' c d e s q => f σ H' g' oa c d (fr.step e s) q
theorem sstepT {b : Bs} {env : En} {h : Hm} {σ : St} {H : Hp} {g : G} {oa : Nat → Option Addr} {m : En → Hm → Rs Bool} {k : Bool → Hm → Rt} {D : Ends} {Q : Bool → Hp → Prop} (fr : FR K ca b env h σ H g oa) (f : FinS K ca W b (bindS (m env h) env k) D)
    (hQ : ∀ c H1 g1 h1, FR K ca b env h1 σ H1 g1 oa → FinS K ca W b (k c h1) D → Q c H1) : rdT K ca W m σ H Q := by
  refine ⟨g, oa, env, h, fr.er, fr.sr, ?_⟩
  rcases hm : m env h with _ | ⟨v | x, h1⟩
  · rw [hm] at f; exact f
  · rw [hm] at f
    exact fun g' H' e s => hQ v H' g' h1 (fr.step e s) f
  · rw [hm] at f
    exact fun g' H' c d e s q => f σ H' g' oa c d (fr.step e s) q
theorem sstepL {b : Bs} {env : En} {h : Hm} {σ : St} {H : Hp} {g : G} {oa : Nat → Option Addr} {m : En → Hm → Rs (List PV)} {k : List PV → Hm → Rt} {D : Ends} {Q : VK} (fr : FR K ca b env h σ H g oa) (f : FinS K ca W b (bindS (m env h) env k) D)
    (hQ : ∀ p H1 g1 h1 xs vs, Ext g H g1 H1 → SR K ca g1 h1 H1 → H p = none → H1 p = some (.lst vs) → g1.M p → p ∉ g1.φ → VRs K g1 H1 xs vs → FinS K ca W b (k xs h1) D → Q (.ref p) H1) : rdL K ca W m σ H Q := by
  refine ⟨g, oa, env, h, fr.er, fr.sr, ?_⟩
  rcases hm : m env h with _ | ⟨v | x, h1⟩
  · rw [hm] at f; exact f
  · rw [hm] at f
    exact fun g' H' e s p vs a1 a2 a3 a4 a5 => hQ p H' g' h1 v vs e s a1 a2 a3 a4 a5 f
  · rw [hm] at f
    exact fun g' H' c d e s q => f σ H' g' oa c d (fr.step e s) q
theorem sstepI {b : Bs} {env : En} {h : Hm} {σ : St} {H : Hp} {g : G} {oa : Nat → Option Addr} {m : En → Hm → Rs (List PV)} {k : List PV → Hm → Rt} {D : Ends} {R : L2.It → Hp → Prop} (fr : FR K ca b env h σ H g oa) (f : FinS K ca W b (bindS (m env h) env k) D)
    (hQ : ∀ J H1 g1 h1 xs, FR K ca b env h1 σ H1 g1 oa → Wk K ca g1 H1 J xs → FinS K ca W b (k xs h1) D → R J H1) : rdI K ca W m σ H R := by
  refine ⟨g, oa, env, h, fr.er, fr.sr, ?_⟩
  rcases hm : m env h with _ | ⟨v | x, h1⟩
  · rw [hm] at f; exact f
  · rw [hm] at f
    exact fun g' H' e s J w => hQ J H' g' h1 v (fr.step e s) w f
  · rw [hm] at f
    exact fun g' H' c d e s q => f σ H' g' oa c d (fr.step e s) q
end
end PG


set_option Elab.async false
set_option maxRecDepth 100000
set_option linter.unusedVariables false
/-! PgS9: statements, each by its rule. -/
namespace PG
open PySem L2

section
variable {ca : CA} {cf : Cf} {st : Sta} {X : Cx}
theorem js_asg {tg e : Expr} {p : Pt} {m : En → Hm → Rs PV} {pos : Pos} (je : JE ca X e m) (hg : PG X tg (gPt X.K p)) (hs : swapsWithSole [tg] e pos.line X.env = pure false) (hw : swappedStores [tg] e X.env = pure none)
    (h1 : (assignEach [tg] X.env).map (·.2) = [assign tg X.env]) :
    JS ca X (.Assign [tg] e pos) fun env h => bindS (m env h) env fun v h1 => match ptSet env p v with
      | some env' => some (.nx, env', h1)
      | none => none := fun W b tk => PS_imp (ps_asg (je W tk) hg hs hw h1) fun D σ H ⟨g, oa, env, h, fr, f⟩ => by
  refine sstep fr f fun y H1 g1 h1 v e1 fr1 v1 f1 => ?_
  split at f1
  · rename_i env' hp
    exact pt_ok fr1.er v1 hp fun σ' oa' er' _ ho => f1 σ' H1 g1 oa' (fr1.slots er' ho)
  · exact f1.elim
/-- a, b = c, d -/
theorem js_own {y : Str} {py pos : Pos} {i : Nat} {e : Expr} {m : En → Hm → Rs (List PV)} (h : ∀ W, Takes X W → PS X (.Assign [.Name y py] e pos) (tAsg (rdL X.K ca W m) (gName i))) :
    JS ca X (.Assign [.Name y py] e pos) fun env h => bindS (m env h) env fun xs h1 => if i < env.length then some (.nx, env.set i (.own xs), h1) else none := fun W b tk => PS_imp (h W tk) fun D σ H ⟨g, oa, env, h, fr, f⟩ => by
  refine sstepL fr f fun p H1 g1 h1 xs vs e1 s1 hp hp1 hM hφ t f1 => ?_
  split at f1
  · rename_i hi
    exact f1 _ H1 g1 _ (fr.take e1 s1 hp hp1 hM hφ t hi)
  · exact f1.elim
/-- name = [..], the list never to change -/
theorem js_fix {y : Str} {py pos : Pos} {i : Nat} {e : Expr} {m : En → Hm → Rs (List PV)} (h : ∀ W, Takes X W → PS X (.Assign [.Name y py] e pos) (tAsg (rdL X.K ca W m) (gName i))) :
    JS ca X (.Assign [.Name y py] e pos) fun env h => bindS (bindR (m env h) fun vs h1 => okR (.lst vs) h1) env fun v h1 => match ptSet env (.nm i) v with
      | some env' => some (.nx, env', h1)
      | none => none := fun W b tk => PS_imp (h W tk) fun D σ H ⟨g, oa, env, h, fr, f⟩ => by
  refine ⟨g, oa, env, h, fr.er, fr.sr, ?_⟩
  rcases hm : m env h with _ | ⟨v | x, h1⟩
  · simp only [hm] at f; exact f
  · simp only [hm] at f
    intro g' H' e s p vs hp hp1 hM hφ t
    have f : FinS X.K ca W b (match ptSet env (.nm i) (.lst v) with
      | some env' => some (.nx, env', h1)
      | none => none) D := f
    split at f
    · rename_i env' hq
      have fr1 := fr.step (e.toFix hp) (s.toFix hφ)
      refine pt_ok (p := .nm i) fr1.er (x := .lst v) (y := .ref p) ⟨p, vs, rfl, hp1, fun q => q.2 rfl, t.toFix⟩ hq fun σ' oa' er' _ ho => f σ' H' (g'.fix p) oa' (fr1.slots er' ho)
    · exact f.elim
  · simp only [hm] at f
    exact fun g' H' c d e s q => f σ H' g' oa c d (fr.step e s) q
theorem js_exp {e : Expr} {m : En → Hm → Rs PV} {pos : Pos} (je : JE ca X e m) (hs : swapsWith e none pos.line X.env = pure false) :
    JS ca X (.Expr e pos) fun env h => bindS (m env h) env fun _ h1 => some (.nx, env, h1) := fun W b tk => PS_imp (ps_expr (je W tk) hs) fun D σ H ⟨g, oa, env, h, fr, f⟩ => by
  refine sstep fr f fun y H1 g1 h1 v e1 fr1 v1 f1 => ?_
  exact f1 σ H1 g1 oa fr1
theorem js_ret {e : Expr} {m : En → Hm → Rs PV} {pos : Pos} (je : JE ca X e m) :
    JS ca X (.Return (some e) pos) fun env h => bindS (m env h) env fun v h1 => if v.nb = true then some (.rt v, env, h1) else none := fun W b tk => PS_imp (ps_ret (je W tk)) fun D σ H ⟨g, oa, env, h, fr, f⟩ => by
  refine sstep fr f fun y H1 g1 h1 v e1 fr1 v1 f1 => ?_
  split at f1
  · rename_i hb
    exact f1 g1 H1 y fr1.ext fr1.sr (v1.vr hb)
  · exact f1.elim
theorem js_retN {pos : Pos} : JS ca X (.Return none pos) fun env h => some (.rt .non, env, h) := fun W b tk => PS_imp ps_retN fun D σ H ⟨g, oa, env, h, fr, f⟩ => f g H .non fr.ext fr.sr rfl
theorem js_ife {c : Expr} {p q : List Stmt} {mc : En → Hm → Rs Bool} {mp mq : En → Hm → Rt} {pos : Pos} (jc : JT ca X c mc) (jp : JB ca X p mp) (jq : JB ca X q mq) :
    JS ca X (.If c p q pos) fun env h => bindS (mc env h) env fun k h1 => if k = true then mp env h1 else mq env h1 := fun W b tk => PS_imp (ps_if (jc W tk) (jp W b tk) (jq W b tk)) fun D σ H ⟨g, oa, env, h, fr, f⟩ => by
  refine sstepT fr f fun k H1 g1 h1 fr1 f1 => ?_
  cases k with
  | true => exact ⟨g1, oa, env, h1, fr1, f1⟩
  | false => exact ⟨g1, oa, env, h1, fr1, f1⟩
theorem js_pass {pos : Pos} : JS ca X (.Pass pos) fun env h => some (.nx, env, h) := fun W b tk => PS_imp ps_pass fun D σ H ⟨g, oa, env, h, fr, f⟩ => f σ H g oa fr
theorem js_brk {pos : Pos} : JS ca X (.Break pos) fun env h => some (.bk, env, h) := fun W b tk => PS_imp ps_break fun D σ H ⟨g, oa, env, h, fr, f⟩ => f σ H g oa fr
theorem js_cnt {pos : Pos} : JS ca X (.Continue pos) fun env h => some (.ct, env, h) := fun W b tk => PS_imp ps_continue fun D σ H ⟨g, oa, env, h, fr, f⟩ => f σ H g oa fr
theorem js_never {s : Stmt} : JS ca X s fun _ _ => none := fun W b tk => PS_imp ps_never fun D σ H ⟨g, oa, env, h, fr, f⟩ => f
theorem jb_nil : JB ca X [] fun env h => some (.nx, env, h) := fun W b tk => PSs_imp pss_nil fun D σ H ⟨g, oa, env, h, fr, f⟩ => f σ H g oa fr
theorem jb_cons {s : Stmt} {r : List Stmt} {m mr : En → Hm → Rt} (js : JS ca X s m) (jr : JB ca X r mr) : JB ca X (s :: r) fun env h => seqS (m env h) mr := fun W b tk =>
  PSs_imp (pss_cons (js W b tk) (jr W b tk)) fun D σ H ⟨g, oa, env, h, fr, f⟩ => by
  refine ⟨g, oa, env, h, fr, ?_⟩
  have f : FinS X.K ca W b (seqS (m env h) mr) D := f
  rcases hm : m env h with _ | ⟨fl, env', h'⟩
  · rw [hm] at f; exact f
  · rw [hm] at f
    cases fl with
    | nx => exact fun σ' H' g' oa' fr' => ⟨g', oa', env', h', fr', f⟩
    | bk => exact f
    | ct => exact f
    | rt v => exact f
    | xc x => exact f
/-- a thought of ours, no statement of the text -/
theorem jb_frz {i : Nat} {r : List Stmt} {mr : En → Hm → Rt} (jr : JB ca X r mr) : JB ca X r fun env h => seqS (match env[i]? with
    | some (.own xs) => some (.nx, env.set i (.val (.lst xs)), h)
    | _ => some (.nx, env, h)) mr := fun W b tk =>
  PSs_imp (jr W b tk) fun D σ H ⟨g, oa, env, h, fr, f⟩ => by
  have f : FinS X.K ca W b (seqS (match env[i]? with
    | some (.own xs) => some (.nx, env.set i (.val (.lst xs)), h)
    | _ => some (.nx, env, h)) mr) D := f
  split at f
  · rename_i xs hx
    obtain ⟨g', oa', fr'⟩ := fr.freeze hx
    exact ⟨g', oa', _, h, fr', f⟩
  · exact ⟨g, oa, env, h, fr, f⟩

/-! ### loops -/
theorem js_whl {c : Expr} {body : List Stmt} {mc : En → Hm → Rs Bool} {mb : En → Hm → Rt} {pos : Pos} (hp : PassesOwn (model X.prog X.w) X.A X.env X.xe) (jc : JT ca X c mc) (jb : JB ca X body mb) :
    JS ca X (.While c body [] pos) fun env h => whl mc mb fuel env h := fun W b tk => PS_imp (ps_while hp (jc W tk) (jb W b tk)) fun D σ H ⟨g, oa, env, h, fr, f⟩ => by
  refine ⟨fun n σ H => ∃ g oa env h, FR X.K ca b env h σ H g oa ∧ FinS X.K ca W b (whl mc mb n env h) D, ⟨fuel, g, oa, env, h, fr, f⟩, ?_⟩
  rintro n σ H ⟨g, oa, env, h, fr, f⟩
  cases n with
  | zero => exact f.elim
  | succ n =>
    refine sstepT fr f fun k H1 g1 h1 fr1 f1 => ?_
    cases k with
    | false => exact f1 σ H1 g1 oa fr1
    | true =>
      refine ⟨fun σ' H' => ∃ g oa env h, FR X.K ca b env h σ' H' g oa ∧ FinS X.K ca W b (whl mc mb n env h) D, fun σ' H' q => ⟨n, Nat.lt_succ_self n, q⟩, g1, oa, env, h1, fr1, ?_⟩
      have f1 : FinS X.K ca W b (match mb env h1 with
        | some (.nx, env2, h2) => whl mc mb n env2 h2
        | some (.ct, env2, h2) => whl mc mb n env2 h2
        | some (.bk, env2, h2) => some (.nx, env2, h2)
        | r => r) D := f1
      rcases hm : mb env h1 with _ | ⟨fl, env', h'⟩
      · rw [hm] at f1; exact f1
      · rw [hm] at f1
        cases fl with
        | nx => exact fun σ' H' g' oa' fr' => ⟨g', oa', env', h', fr', f1⟩
        | bk => exact f1
        | ct => exact fun σ' H' g' oa' fr' => ⟨g', oa', env', h', fr', f1⟩
        | rt v => exact f1
        | xc x => exact f1
theorem js_for {tg iter : Expr} {body : List Stmt} {p : Pt} {mi : En → Hm → Rs (List PV)} {mb : En → Hm → Rt} {pos : Pos} (hp : PassesOwn (model X.prog X.w) X.A X.env X.xe) (hc : X.calm = true) (ji : JI ca X tg iter mi) (hg : PG X tg (gPt X.K p)) (jb : JB ca X body mb)
    (hs : ∀ x, foldedSetIterable iter X.env x = pure x) :
    JS ca X (.For tg iter body [] pos) fun env h => bindS (mi env h) env fun xs h1 => forL p mb xs env h1 := by
  intro W b tk
  refine ⟨fun pins s σ0 H0 D I hw => ?_⟩
  obtain ⟨g0, oa0, env0, h0, fr0, f0⟩ := hw
  -- the mark: where the loop begins (behind its iterable)
  rcases hm : mi env0 h0 with _ | ⟨xs | x, h1⟩
  · simp only [hm] at f0; exact f0.elim
  · simp only [hm] at f0
    have f0 : FinS X.K ca W b (forL p mb xs env0 h1) D := f0
    -- the iterable first, the mark then
    have rd : ∀ R : L2.It → Hp → Prop, (∀ J H1 g1, FR X.K ca b env0 h1 σ0 H1 g1 oa0 → Wk X.K ca g1 H1 J xs → R J H1) → rdI X.K ca W mi σ0 H0 R := fun R hR =>
      ⟨g0, oa0, env0, h0, fr0.er, fr0.sr, by rw [hm]; exact fun g' H' e s J w => hR J H' g' (fr0.step e s) w⟩
    refine (ps_for hp hc (ji W tk) hg (tb := fun D σ H => ∃ b' : Bs, (∃ m, b' = { b with marks := m :: b.marks }) ∧ rdS X.K ca W b' mb D σ H) ⟨fun pins s σ H D I ⟨b', _, w⟩ => (jb W b' tk).run pins s σ H D I w⟩ hs).run pins s σ0 H0 D I ?_
    refine rd _ fun J H1 g1 fr1 wk => ?_
    refine ⟨fun i m σ H => m = xs.length - i ∧ i ≤ xs.length ∧ ∃ g oa env h, FR X.K ca { b with marks := (g1, H1) :: b.marks } env h σ H g oa ∧ FinS X.K ca W b (forL p mb (xs.drop i) env h) D, ⟨xs.length, by simp, Nat.zero_le _, g1, oa0, env0, h1, fr1.mark, by simpa using f0⟩, ?_⟩
    rintro i m σ H ⟨rfl, hi, g, oa, env, h, fr, f⟩
    obtain ⟨wstop, wgo⟩ := wk g H (fr.mks _ (List.mem_cons_self ..))
    by_cases hlt : i < xs.length
    · obtain ⟨go, yl⟩ := wgo i xs[i] (List.getElem?_eq_getElem hlt)
      rw [List.drop_eq_getElem_cons hlt] at f
      refine .inr ⟨go, fun σ' H' => i + 1 ≤ xs.length ∧ ∃ g oa env h, FR X.K ca { b with marks := (g1, H1) :: b.marks } env h σ' H' g oa ∧ FinS X.K ca W b (forL p mb (xs.drop (i + 1)) env h) D, fun σ' H' ⟨a, q⟩ => ⟨xs.length - (i + 1), by omega, rfl, a, q⟩, fun y H'' hy => ?_⟩
      obtain ⟨g2, e2, sr2, r2⟩ := yl y H'' hy
      have fr2 := fr.step e2 (sr2 h fr.sr)
      have f : FinS X.K ca W b (match ptSet env p xs[i] with
        | none => none
        | some env1 => match mb env1 h with
          | some (.nx, env2, h2) => forL p mb (xs.drop (i + 1)) env2 h2
          | some (.ct, env2, h2) => forL p mb (xs.drop (i + 1)) env2 h2
          | some (.bk, env2, h2) => some (.nx, env2, h2)
          | r => r) D := f
      split at f
      · exact f.elim
      · rename_i env1 hpt
        refine pt_ok fr2.er r2.vt hpt fun σ' oa2 er2 _ ho => ⟨_, ⟨_, rfl⟩, g2, oa2, env1, h, fr2.slots er2 ho, ?_⟩
        rcases hb : mb env1 h with _ | ⟨fl, env', h'⟩
        · rw [hb] at f; exact f
        · rw [hb] at f
          cases fl with
          | nx => exact fun σ' H' g' oa' fr' => ⟨hlt, g', oa', env', h', fr', f⟩
          | bk => exact fun σ' H' g' oa' fr' => f σ' H' g' oa' fr'.unmark
          | ct => exact fun σ' H' g' oa' fr' => ⟨hlt, g', oa', env', h', fr', f⟩
          | rt v => exact f
          | xc x => exact fun σ' H' g' oa' c d fr' q => f σ' H' g' oa' c d fr'.unmark q
    · have hi' : i = xs.length := by omega
      subst hi'
      rw [List.drop_length] at f
      exact .inl ⟨wstop _ (Nat.le_refl _), f σ H g oa fr.unmark⟩
  · simp only [hm] at f0
    refine (ps_for hp hc (ji W tk) hg (jb W b tk) hs).run pins s σ0 H0 D I ?_
    refine ⟨g0, oa0, env0, h0, fr0.er, fr0.sr, ?_⟩
    rw [hm]
    exact fun g' H' c d e s q => f0 σ0 H' g' oa0 c d (fr0.step e s) q
end
end PG


set_option Elab.async false
set_option maxRecDepth 100000
set_option linter.unusedVariables false
/-! PgS10: lists that change. -/
namespace PG
open PySem L2

section
variable {ca : CA} {cf : Cf} {st : Sta} {X : Cx} {W : WX} {K : PySem.W.Frag}
theorem isCell_rel {g : G} {h : Hm} {H : Hp} {u : PV} {y : V} {n : Nat} (s : SR K ca g h H) (r : VT K g H u y) (e : isCell h u = some n) : u = .ref n ∧ ∃ a vs xs, y = .ref a ∧ g.φ[n]? = some a ∧ H a = some (.lst vs) ∧ h[n]? = some (.lst xs) ∧ VRs K g H xs vs := by
  cases u <;> first | (cases e; done) | skip
  rename_i m
  simp only [isCell] at e
  split at e
  · rename_i xs hx
    cases e
    obtain ⟨a, q, rfl⟩ := r
    obtain ⟨vs, h1, t⟩ := s.obj _ a _ q hx
    exact ⟨rfl, a, vs, xs, rfl, q, h1, hx, t⟩
  · cases e
theorem refApp_ok {b : Bs} {env : En} {h : Hm} {σ : St} {H : Hp} {g : G} {oa : Nat → Option Addr} {D : Ends} {n : Nat} {a : Addr} {v : PV} {z : V} (fr : FR K ca b env h σ H g oa) (hn : g.φ[n]? = some a) (r : VT K g H v z) (f : FinS K ca W b (refApp env h v n) D) :
    rAppend (.ref a) [z] H fun _ H' => D.nx σ H' := by
  unfold refApp at f
  split at f
  · rename_i xs hx
    split at f
    · rename_i hc
      obtain ⟨vs, h1, t⟩ := fr.sr.obj n a _ hn hx
      exact ⟨a, vs, z, rfl, rfl, h1, by rw [t.length]; exact hc.2, f σ _ g oa (fr.cell hn h1 (t.append (VRs.single (r.vr hc.1))))⟩
    · exact f.elim
  · exact f.elim
theorem hfew1 {e : Expr} {env : Env} {cpos : Pos} (he : starEach [e] env = (false, eval e env) :: starEach [] env) :
    ((backTo cpos (starEach [e] env)).all (fun x => !x.1) && (backToKw cpos (keywordEach [] env)).all (fun x => x.1.isSome) && decide ([e].length + ([] : List Keyword).length + (if ([] : List Keyword).isEmpty then 0 else 1) < 30)) = true := by
  rw [he]; rfl
theorem js_appV (G : GX ca cf st X) {i : Nat} {x : Str} {e : Expr} {m : En → Hm → Rs PV} {p apos cpos pos : Pos} (hN : st.N[i]? = some x) (hv : visB st x = true) (hd : (x == ("__debug__" : Str)) = false) (hcd : (x == ("__classdict__" : Str)) = false)
    (je : JE ca X e m) (hline : (apos.endLine == cpos.line) = true) (he : starEach [e] X.env = (false, eval e X.env) :: starEach [] X.env) :
    JS ca X (.Expr (.Call (.Attribute (.Name x p) "append" apos) [e] [] cpos) pos) fun env h => match env[i]? with
    | some (.own xs) => bindS (m env h) env fun v h1 => if v.nb = true ∧ xs.length < sizeLine then some (.nx, env.set i (.own (xs ++ [v])), h1) else none
    | some (.val u) => match isCell h u with
      | some n => bindS (m env h) env fun v h1 => refApp env h1 v n
      | none => none
    | _ => none := by
  intro W b tk
  refine PS_imp (ps_expr (pe_bm PySem.F.plainAttrs_list PySem.F.slot_list_append PySem.F.type_list_append mt_append (pe_var (i := i) (by rw [G.hN]; exact hN) (G.vis hv) hd hcd) (pa_cons (je W tk) pa_nil he) rfl (hfew1 he) hline he rfl) rfl) ?_
  intro D σ H ⟨g, oa, env, h, fr, f⟩
  dsimp only at f
  split at f
  · rename_i xs hx
    obtain ⟨y, hy, a, vs, rfl, ho, hH, t⟩ := fr.er.at hx
    refine ⟨_, hy, .inl ⟨rfl, vs, .inl (.inl hH)⟩, ?_⟩
    refine sstep fr f fun z H1 g1 h1 v e1 fr1 v1 f1 => ?_
    split at f1
    · rename_i hc
      obtain ⟨y', hy', a', vs', q, ho', hH', t'⟩ := fr1.er.at hx
      rw [hy] at hy'; cases hy'; cases q
      exact ⟨a, vs', z, rfl, rfl, hH', by rw [t'.length]; exact hc.2, f1 σ _ g1 oa (fr1.put ho hy hH' (t'.append (VRs.single (v1.vr hc.1))) (List.getElem?_eq_some_iff.mp hx).1)⟩
    · exact f1.elim
  · rename_i u hx
    split at f
    · rename_i n hn
      obtain ⟨y, hy, _, z, rfl, r⟩ := fr.er.at hx
      obtain ⟨rfl, a, vs, xs, rfl, q1, q2, q3, t⟩ := isCell_rel fr.sr r.vt hn
      refine ⟨_, hy, .inl ⟨rfl, vs, .inl (.inl q2)⟩, ?_⟩
      refine sstep fr f fun z H1 g1 h1 v e1 fr1 v1 f1 => ?_
      exact refApp_ok fr1 (e1.φget q1) v1 f1
    · exact f.elim
  · exact f.elim
theorem js_app {t e : Expr} {mt m : En → Hm → Rs PV} {apos cpos pos : Pos} (jt : JE ca X t mt) (je : JE ca X e m) (hb : attributeBase t "append" X.env (eval t X.env) = eval t X.env) (hline : (apos.endLine == cpos.line) = true)
    (he : starEach [e] X.env = (false, eval e X.env) :: starEach [] X.env) :
    JS ca X (.Expr (.Call (.Attribute t "append" apos) [e] [] cpos) pos) fun env h => bindS (mt env h) env fun u h1 => match isCell h1 u with
    | some n => bindS (m env h1) env fun v h2 => refApp env h2 v n
    | none => none := by
  intro W b tk
  refine PS_imp (ps_expr (pe_bm PySem.F.plainAttrs_list PySem.F.slot_list_append PySem.F.type_list_append mt_append (jt W tk) (pa_cons (je W tk) pa_nil he) hb (hfew1 he) hline he rfl) rfl) ?_
  intro D σ H ⟨g, oa, env, h, fr, f⟩
  refine sstep fr f fun y H1 g1 h1 u e1 fr1 v1 f1 => ?_
  split at f1
  · rename_i n hn
    obtain ⟨rfl, a, vs, xs, rfl, q1, q2, q3, t⟩ := isCell_rel fr1.sr v1 hn
    refine ⟨.inl ⟨rfl, vs, .inl (.inl q2)⟩, ?_⟩
    refine sstep fr1 f1 fun z H2 g2 h2 v e2 fr2 v2 f2 => ?_
    exact refApp_ok fr2 (e2.φget q1) v2 f2
  · exact f1.elim

/-! ### o[k] = e -/
theorem refSet_ok {b : Bs} {env : En} {h : Hm} {σ : St} {H : Hp} {g : G} {oa : Nat → Option Addr} {D : Ends} {u k v : PV} {x y z : V} (fr : FR K ca b env h σ H g oa) (r1 : VT K g H u x) (r2 : VT K g H k y) (r3 : VT K g H v z) (f : FinS K ca W b (refSet env h u k v) D) :
    rSetL x y z H fun H' => D.nx σ H' := by
  unfold refSet at f
  split at f
  · rename_i n
    split at f
    · rename_i xs hx
      split at f
      · rename_i k
        split at f
        · rename_i m hm
          split at f
          · rename_i hb
            obtain ⟨a, q, rfl⟩ := r1
            cases r2
            obtain ⟨vs, h1, t⟩ := fr.sr.obj n a _ q hx
            exact ⟨a, vs, k, m, rfl, rfl, h1, by rw [t.length]; exact hm, f σ _ g oa (fr.cell q h1 (t.set m (r3.vr hb)))⟩
          · exact f.elim
        · exact f.elim
      · exact f.elim
    · exact f.elim
  · exact f.elim
theorem js_setI {t k e : Expr} {mt mk m : En → Hm → Rs PV} {pos p : Pos} (jt : JE ca X t mt) (jk : JE ca X k mk) (je : JE ca X e m) (hs : swapsWithSole [.Subscript t k p] e pos.line X.env = pure false) (hw : swappedStores [.Subscript t k p] e X.env = pure none)
    (ha : ∀ v, assign (.Subscript t k p) X.env v = (do
      let ov ← holding [v] (eval t X.env)
      let iv ← holding [v, ov] (eval k X.env)
      standAt p
      holding [v, ov, iv] (setItem ov iv v)
      release [v, ov, iv] [])) :
    JS ca X (.Assign [.Subscript t k p] e pos) fun env h => bindS (m env h) env fun v h1 => bindS (mt env h1) env fun u h2 => bindS (mk env h2) env fun w h3 => refSet env h3 u w v := by
  intro W b tk
  refine PS_imp (ps_asg (je W tk) (pg_sub (jt W tk) (jk W tk) set_list ha) hs hw rfl) ?_
  intro D σ H ⟨g, oa, env, h, fr, f⟩
  refine sstep fr f fun z H1 g1 h1 v e1 fr1 v1 f1 => ?_
  refine sstep fr1 f1 fun x H2 g2 h2 u e2 fr2 v2 f2 => ?_
  refine sstep fr2 f2 fun y H3 g3 h3 w e3 fr3 v3 f3 => ?_
  exact refSet_ok fr3 (v2.ext fr2.sr.sane e3) v3 ((v1.ext fr1.sr.sane e2).ext fr2.sr.sane e3) f3
theorem js_setV (G : GX ca cf st X) {i : Nat} {x : Str} {k e : Expr} {mk m : En → Hm → Rs PV} {pos p p2 : Pos} (hN : st.N[i]? = some x) (hv : visB st x = true) (hd : (x == ("__debug__" : Str)) = false) (hcd : (x == ("__classdict__" : Str)) = false)
    (jk : JE ca X k mk) (je : JE ca X e m) (hs : swapsWithSole [.Subscript (.Name x p2) k p] e pos.line X.env = pure false) (hw : swappedStores [.Subscript (.Name x p2) k p] e X.env = pure none)
    (ha : ∀ v, assign (.Subscript (.Name x p2) k p) X.env v = (do
      let ov ← holding [v] (eval (.Name x p2) X.env)
      let iv ← holding [v, ov] (eval k X.env)
      standAt p
      holding [v, ov, iv] (setItem ov iv v)
      release [v, ov, iv] [])) :
    JS ca X (.Assign [.Subscript (.Name x p2) k p] e pos) fun env h => bindS (m env h) env fun v h1 => match env[i]? with
    | some (.own xs) => bindS (mk env h1) env fun w h2 => ownSet env h2 i xs w v
    | some (.val u) => bindS (mk env h1) env fun w h2 => refSet env h2 u w v
    | _ => none := by
  intro W b tk
  refine PS_imp (ps_asg (je W tk) (pg_sub (pe_var (i := i) (by rw [G.hN]; exact hN) (G.vis hv) hd hcd) (jk W tk) set_list ha) hs hw rfl) ?_
  intro D σ H ⟨g, oa, env, h, fr, f⟩
  refine sstep fr f fun z H1 g1 h1 v e1 fr1 v1 f1 => ?_
  split at f1
  · rename_i xs hx
    obtain ⟨y, hy, a, vs, rfl, ho, hH, t⟩ := fr1.er.at hx
    refine ⟨_, hy, ?_⟩
    refine sstep fr1 f1 fun y2 H2 g2 h2 w e2 fr2 v2 f2 => ?_
    obtain ⟨y', hy', a', vs', q, ho', hH', t'⟩ := fr2.er.at hx
    rw [hy] at hy'; cases hy'; cases q
    unfold ownSet at f2
    split at f2
    · rename_i j
      split at f2
      · rename_i n hn
        split at f2
        · rename_i hb
          cases v2
          exact ⟨a, vs', j, n, rfl, rfl, hH', by rw [t'.length]; exact hn, f2 σ _ g2 oa (fr2.put ho hy hH' (t'.set n ((v1.ext fr1.sr.sane e2).vr hb)) (List.getElem?_eq_some_iff.mp hx).1)⟩
        · exact f2.elim
      · exact f2.elim
    · exact f2.elim
  · rename_i u hx
    obtain ⟨y, hy, _, z', rfl, r⟩ := fr1.er.at hx
    refine ⟨_, hy, ?_⟩
    refine sstep fr1 f1 fun y2 H2 g2 h2 w e2 fr2 v2 f2 => ?_
    exact refSet_ok fr2 (r.vt.ext fr1.sr.sane e2) v2 (v1.ext fr1.sr.sane e2) f2
  · exact f1.elim
end
end PG


set_option Elab.async false
set_option maxRecDepth 100000
set_option linter.unusedVariables false
/-! PgS11: in, methods of texts, the least, the greatest, sorted. -/
namespace PG
open PySem L2

section
variable {ca : CA} {cf : Cf} {st : Sta} {X : Cx} {W : WX} {K : PySem.W.Frag}
theorem kind_rel {g : G} {H : Hp} {u : PV} {y : V} (r : VR K g H u y) (hk : (kindP u == 1 || kindP u == 2) = true) : (∃ i, u = .int i ∧ y = .int i) ∨ (∃ z, u = .str z ∧ y = .str z) := by
  cases u <;> first | (cases hk; done) | skip
  · cases r; exact .inl ⟨_, rfl, rfl⟩
  · obtain ⟨rfl, _⟩ := r; exact .inr ⟨_, rfl, rfl⟩
theorem in_rel {g : G} {H : Hp} {u : PV} {x : V} (rx : VR K g H u x) (hu : (kindP u == 1 || kindP u == 2) = true) : ∀ {xs : List PV} {vs : List V}, VRs K g H xs vs → xs.all (fun x => kindP x == kindP u) = true →
    flatV x = true ∧ vs.all flatV = true ∧ inV x vs = xs.any fun w => flatEq w u
  | [], vs, r, h => by
    cases r
    rcases kind_rel rx hu with ⟨i, rfl, rfl⟩ | ⟨i, rfl, rfl⟩ <;> exact ⟨rfl, rfl, rfl⟩
  | w :: xs, vs, r, h => by
    obtain ⟨y, ys, rfl, r1, r2⟩ := r
    rw [List.all_cons, Bool.and_eq_true] at h
    obtain ⟨f1, f2, f3⟩ := in_rel rx hu r2 h.2
    have e := eq_of_beq h.1
    have key : flatV y = true ∧ eqV y x = flatEq w u := by
      rcases kind_rel rx hu with ⟨i, rfl, rfl⟩ | ⟨i, rfl, rfl⟩
      · cases w <;> first | (cases e; done) | skip
        cases r1
        exact ⟨rfl, rfl⟩
      · cases w <;> first | (cases e; done) | skip
        obtain ⟨rfl, _⟩ := r1
        exact ⟨rfl, rfl⟩
    refine ⟨f1, by rw [List.all_cons, key.1, f2]; rfl, ?_⟩
    unfold inV at f3 ⊢
    rw [List.any_cons, List.any_cons, f3, key.2]
theorem cIn_cases {h : Hm} {u v : PV} {k : Bool} (e : cIn h u v = some k) : (∃ a b, u = .str a ∧ v = .str b ∧ k = (!(Builtin.Str.occurrences b a 0 b.length 1).isEmpty)) ∨
    ∃ xs, asSeq h v = some xs ∧ (kindP u == 1 || kindP u == 2) = true ∧ xs.all (fun x => kindP x == kindP u) = true ∧ k = xs.any fun x => flatEq x u := by
  unfold cIn at e
  split at e
  · cases e; exact .inl ⟨_, _, rfl, rfl, rfl⟩
  · split at e
    · rename_i xs hx
      split at e
      · rename_i hc
        cases e
        exact .inr ⟨xs, hx, hc.1, hc.2, rfl⟩
      · cases e
    · cases e
theorem VT.of_kind {g : G} {H : Hp} {u : PV} {y : V} (r : VT K g H u y) (hk : (kindP u == 1 || kindP u == 2) = true) : VR K g H u y := r.vr (by cases u <;> first | rfl | (cases hk; done))
theorem opf_in : OpF X ca (compareOp .In) fun h u v => (cOp h .isin u v).map .bl := by
  intro W σ0 pins s σ H x y vv uu Q I rx ry ⟨g, h, u, v, sr, r1, r2, f⟩
  obtain ⟨k, ek, q⟩ := finC sr f
  rcases cIn_cases (show cIn h u v = some k from ek) with ⟨a, b, rfl, rfl, rfl⟩ | ⟨xs, hx, hu, ha, rfl⟩
  · obtain ⟨rfl, _⟩ := r1
    obtain ⟨rfl, _⟩ := r2
    exact op_in_str pins s σ H _ _ _ _ Q I rx ry ⟨_, _, rfl, rfl, q⟩
  · obtain ⟨p, vs, rfl, hq, t⟩ := asSeq_rel sr r2 hx
    obtain ⟨f1, f2, f3⟩ := in_rel (r1.of_kind hu) hu t ha
    exact op_in_seq pins s σ H _ _ _ _ Q I rx ry ⟨p, vs, rfl, hq, f1, f2, by rw [if_neg (by simp), f3]; exact q⟩
theorem opf_notin : OpF X ca (compareOp .NotIn) fun h u v => (cOp h .notin u v).map .bl := by
  intro W σ0 pins s σ H x y vv uu Q I rx ry ⟨g, h, u, v, sr, r1, r2, f⟩
  obtain ⟨k, ek, q⟩ := finC sr f
  have ek : (cIn h u v).map (!·) = some k := ek
  cases hc : cIn h u v with
  | none => rw [hc] at ek; cases ek
  | some c =>
    rw [hc] at ek; cases ek
    rcases cIn_cases hc with ⟨a, b, rfl, rfl, rfl⟩ | ⟨xs, hx, hu, ha, rfl⟩
    · obtain ⟨rfl, _⟩ := r1
      obtain ⟨rfl, _⟩ := r2
      exact op_notin_str pins s σ H _ _ _ _ Q I rx ry ⟨_, _, rfl, rfl, q⟩
    · obtain ⟨p, vs, rfl, hq, t⟩ := asSeq_rel sr r2 hx
      obtain ⟨f1, f2, f3⟩ := in_rel (r1.of_kind hu) hu t ha
      exact op_notIn_seq pins s σ H _ _ _ _ Q I rx ry ⟨p, vs, rfl, hq, f1, f2, by rw [if_pos rfl, f3]; exact q⟩

/-! ### methods of texts -/
def rM (K : PySem.W.Frag) (ca : CA) (m : Ms) : V → List V → Hp → VK → Prop := fun x ys H Q => ∃ g h a us, x = .str a ∧ SR K ca g h H ∧ VTs K g H us ys ∧ a.length ≤ sizeLine ∧
  ∃ w, sMt h m a us = some w ∧ ∀ g' H', Ext g H g' H' → SR K ca g' h H' → ∀ z, VT K g' H' w z → Q z H'
theorem okS_of {s : Str} (h : okS s = true) : s.length ≤ sizeLine := of_decide_eq_true h
theorem strs_vrs {g : G} {H : Hp} : ∀ {l : List Str}, l.all okS = true → VRs K g H (l.map PV.str) (l.map V.str)
  | [], _ => rfl
  | s :: r, h => by
    rw [List.all_cons, Bool.and_eq_true] at h
    exact ⟨_, _, rfl, ⟨rfl, okS_of h.1⟩, strs_vrs h.2⟩
theorem pStrs_map : ∀ {xs : List PV} {bs : List Str}, pStrs xs = some bs → xs = bs.map PV.str
  | [], _, e => by cases e; rfl
  | v :: r, bs, e => by
    cases v <;> first | (cases e; done) | skip
    rename_i b
    have e : (pStrs r).map (b :: ·) = some bs := e
    cases h : pStrs r with
    | none => rw [h] at e; cases e
    | some cs => rw [h] at e; cases e; rw [pStrs_map h]; rfl
theorem VRs.strs {g : G} {H : Hp} : ∀ {bs : List Str} {vs : List V}, VRs K g H (bs.map PV.str) vs → vs = bs.map V.str ∧ bs.all okS = true
  | [], _, r => ⟨r, rfl⟩
  | _ :: _, _, r => by
    obtain ⟨y, ys, rfl, ⟨rfl, h1⟩, t⟩ := r
    obtain ⟨e, h2⟩ := VRs.strs t
    exact ⟨by rw [e]; rfl, by rw [List.all_cons, h2]; simp [okS, h1]⟩
theorem m_lower : MtR X "str.lower" (rM X.K ca .lower) := by
  intro pins s σ H x xs v us Q I rx rs ⟨g, h, a, ps, hx, sr, t, hl, w, ew, q⟩
  subst hx
  match ps, ew with
  | [], ew =>
    cases t
    have ew : (if a.length ≤ 5592405 ∧ okS (Txt.lower a) = true then some (PV.str (Txt.lower a)) else none) = some w := ew
    split at ew
    · rename_i hc
      cases ew
      exact mt_lower pins s σ H _ _ v us Q I rx rs ⟨a, rfl, rfl, hc.1, q g H (Ext.refl _ _) sr _ ⟨rfl, okS_of hc.2⟩⟩
    · cases ew
theorem m_split : MtR X "str.split" (rM X.K ca .split) := by
  intro pins s σ H x xs v us Q I rx rs ⟨g, h, a, ps, hx, sr, t, hl, w, ew, q⟩
  subst hx
  match ps, ew with
  | [.str b], ew =>
    obtain ⟨y, rfl, r1⟩ := vts1 t
    obtain ⟨rfl, _⟩ := r1
    have ew : (if b.length ≠ 0 ∧ a.length + 2 ≤ sizeLine ∧ (Txt.split a b).all okS = true then some (PV.lst ((Txt.split a b).map .str)) else none) = some w := ew
    split at ew
    · rename_i hc
      cases ew
      exact mt_split pins s σ H _ _ v us Q I rx rs ⟨a, b, rfl, rfl, by simp [hc.1], hc.2.1, fun p hp => new_list sr (strs_vrs hc.2.2) hp q⟩
    · cases ew
theorem m_part : MtR X "str.partition" (rM X.K ca .part) := by
  intro pins s σ H x xs v us Q I rx rs ⟨g, h, a, ps, hx, sr, t, hl, w, ew, q⟩
  subst hx
  match ps, ew with
  | [.str b], ew =>
    obtain ⟨y, rfl, r1⟩ := vts1 t
    obtain ⟨rfl, _⟩ := r1
    have ew : (if b.length ≠ 0 ∧ a.length ≤ sizeLine ∧ okS (Txt.partition a b).1 = true ∧ okS (Txt.partition a b).2.1 = true ∧ okS (Txt.partition a b).2.2 = true then
      some (PV.tup [.str (Txt.partition a b).1, .str (Txt.partition a b).2.1, .str (Txt.partition a b).2.2]) else none) = some w := ew
    split at ew
    · rename_i hc
      cases ew
      have tt : VRs X.K g H [.str (Txt.partition a b).1, .str (Txt.partition a b).2.1, .str (Txt.partition a b).2.2] [V.str (Txt.partition a b).1, V.str (Txt.partition a b).2.1, V.str (Txt.partition a b).2.2] :=
        ⟨_, _, rfl, ⟨rfl, okS_of hc.2.2.1⟩, _, _, rfl, ⟨rfl, okS_of hc.2.2.2.1⟩, _, _, rfl, ⟨rfl, okS_of hc.2.2.2.2⟩, rfl⟩
      exact mt_partition pins s σ H _ _ v us Q I rx rs ⟨a, b, rfl, rfl, by simp [hc.1], hc.2.1, fun p hp => new_tup sr tt hp q⟩
    · cases ew
theorem m_join : MtR X "str.join" (rM X.K ca .join) := by
  intro pins s σ H x xs v us Q I rx rs ⟨g, h, a, ps, hx, sr, t, hl, w, ew, q⟩
  subst hx
  match ps, ew with
  | [u], ew =>
    obtain ⟨y, rfl, r1⟩ := vts1 t
    have ew : (match (asSeq h u).bind pStrs with
      | some ys => if (ys.map (·.length)).sum + ys.length * a.length ≤ 16777216 ∧ okS (Txt.join a ys) = true then some (PV.str (Txt.join a ys)) else none
      | none => none) = some w := ew
    cases hs : asSeq h u with
    | none => rw [hs] at ew; cases ew
    | some zs =>
      rw [hs, Option.bind_some] at ew
      cases hz : pStrs zs with
      | none => rw [hz] at ew; cases ew
      | some ys =>
        rw [hz] at ew
        dsimp only at ew
        split at ew
        · rename_i hc
          cases ew
          obtain ⟨p, vs, rfl, hq, tt⟩ := asSeq_rel sr r1 hs
          rw [pStrs_map hz] at tt
          obtain ⟨rfl, _⟩ := tt.strs
          exact mt_join pins s σ H _ _ v us Q I rx rs ⟨a, p, ys, rfl, rfl, hq, hc.1, q g H (Ext.refl _ _) sr _ ⟨rfl, okS_of hc.2⟩⟩
        · cases ew
theorem m_starts : MtR X "str.startswith" (rM X.K ca .starts) := by
  intro pins s σ H x xs v us Q I rx rs ⟨g, h, a, ps, hx, sr, t, hl, w, ew, q⟩
  subst hx
  match ps, ew with
  | [.str b], ew =>
    obtain ⟨y, rfl, r1⟩ := vts1 t
    obtain ⟨rfl, _⟩ := r1
    cases ew
    exact mt_startswith pins s σ H _ _ v us Q I rx rs ⟨a, b, rfl, rfl, q g H (Ext.refl _ _) sr _ rfl⟩
theorem m_starts3 : MtR X "str.startswith" (rM X.K ca .starts3) := by
  intro pins s σ H x xs v us Q I rx rs ⟨g, h, a, ps, hx, sr, t, hl, w, ew, q⟩
  subst hx
  match ps, ew with
  | [.str b, .int i], ew =>
    obtain ⟨y, z, rfl, r1, r2⟩ := vts2 t
    obtain ⟨rfl, _⟩ := r1
    cases r2
    cases ew
    exact mt_startswith3 pins s σ H _ _ v us Q I rx rs ⟨a, b, i, rfl, rfl, q g H (Ext.refl _ _) sr _ rfl⟩
theorem m_find : MtR X "str.find" (rM X.K ca .find) := by
  intro pins s σ H x xs v us Q I rx rs ⟨g, h, a, ps, hx, sr, t, hl, w, ew, q⟩
  subst hx
  match ps, ew with
  | [.str b], ew =>
    obtain ⟨y, rfl, r1⟩ := vts1 t
    obtain ⟨rfl, _⟩ := r1
    cases ew
    exact mt_find pins s σ H _ _ v us Q I rx rs ⟨a, b, rfl, rfl, q g H (Ext.refl _ _) sr _ rfl⟩
theorem m_find3 : MtR X "str.find" (rM X.K ca .find3) := by
  intro pins s σ H x xs v us Q I rx rs ⟨g, h, a, ps, hx, sr, t, hl, w, ew, q⟩
  subst hx
  match ps, ew with
  | [.str b, .int i], ew =>
    obtain ⟨y, z, rfl, r1, r2⟩ := vts2 t
    obtain ⟨rfl, _⟩ := r1
    cases r2
    cases ew
    exact mt_find3 pins s σ H _ _ v us Q I rx rs ⟨a, b, i, rfl, rfl, q g H (Ext.refl _ _) sr _ rfl⟩
theorem m_index : MtR X "str.index" (rM X.K ca .index) := by
  intro pins s σ H x xs v us Q I rx rs ⟨g, h, a, ps, hx, sr, t, hl, w, ew, q⟩
  subst hx
  match ps, ew with
  | [.str b], ew =>
    obtain ⟨y, rfl, r1⟩ := vts1 t
    obtain ⟨rfl, _⟩ := r1
    have ew : (match Builtin.Str.occurrences a b 0 a.length 1 with
    | i :: _ => some (PV.int (i : Nat))
    | [] => none) = some w := ew
    cases ho : Builtin.Str.occurrences a b 0 a.length 1 with
    | nil => rw [ho] at ew; cases ew
    | cons i r =>
      rw [ho] at ew; cases ew
      exact mt_sindex pins s σ H _ _ v us Q I rx rs ⟨a, b, i, r, rfl, rfl, ho, q g H (Ext.refl _ _) sr _ rfl⟩
def msId : Ms → String
  | .lower => "str.lower"
  | .split => "str.split"
  | .join => "str.join"
  | .starts => "str.startswith"
  | .starts3 => "str.startswith"
  | .find => "str.find"
  | .find3 => "str.find"
  | .index => "str.index"
  | .part => "str.partition"
def msNm : Ms → String
  | .lower => "lower"
  | .split => "split"
  | .join => "join"
  | .starts => "startswith"
  | .starts3 => "startswith"
  | .find => "find"
  | .find3 => "find"
  | .index => "index"
  | .part => "partition"
theorem ms_mt (m : Ms) : MtR X (msId m) (rM X.K ca m) := by
  cases m
  · exact m_lower
  · exact m_split
  · exact m_join
  · exact m_starts
  · exact m_starts3
  · exact m_find
  · exact m_find3
  · exact m_index
  · exact m_part
theorem ms_slot (m : Ms) : Slot "str" (Str.ofString (msNm m)) (msId m) := by
  cases m
  · exact PySem.F.slot_str_lower
  · exact PySem.F.slot_str_split
  · exact PySem.F.slot_str_join
  · exact PySem.F.slot_str_startswith
  · exact PySem.F.slot_str_startswith
  · exact PySem.F.slot_str_find
  · exact PySem.F.slot_str_find
  · exact PySem.F.slot_str_index
  · exact PySem.F.slot_str_partition
theorem ms_type (m : Ms) : typeOf (.builtin (msId m)) = pure (.type "method_descriptor") := by
  cases m
  · exact PySem.F.type_str_lower
  · exact PySem.F.type_str_split
  · exact PySem.F.type_str_join
  · exact PySem.F.type_str_startswith
  · exact PySem.F.type_str_startswith
  · exact PySem.F.type_str_find
  · exact PySem.F.type_str_find
  · exact PySem.F.type_str_index
  · exact PySem.F.type_str_partition
theorem je_ms {m : Ms} {o e : Expr} {es : List Expr} {mo : En → Hm → Rs PV} {me : En → Hm → Rs (List PV)} {apos cpos : Pos} (jo : JE ca X o mo) (ja : JA ca X (e :: es) me) (hb : attributeBase o (Str.ofString (msNm m)) X.env (eval o X.env) = eval o X.env)
    (hfew : ((backTo cpos (starEach (e :: es) X.env)).all (fun x => !x.1) && (backToKw cpos (keywordEach [] X.env)).all (fun x => x.1.isSome) && decide ((e :: es).length + ([] : List Keyword).length + (if ([] : List Keyword).isEmpty then 0 else 1) < 30)) = true)
    (hline : (apos.endLine == cpos.line) = true) (hs : starEach (e :: es) X.env = (false, eval e X.env) :: starEach es X.env) (hp : (backTo cpos (starEach es X.env)).any (·.1) = false) :
    JE ca X (.Call (.Attribute o (Str.ofString (msNm m)) apos) (e :: es) [] cpos) fun env h => bindR (mo env h) fun u h1 => match u with
      | .str a => bindR (me env h1) fun vs h2 => liftR (sMt h2 m a vs) h2
      | _ => none := by
  intro W tk
  refine PE_imp (pe_bm PySem.F.plainAttrs_str (ms_slot m) (ms_type m) (ms_mt (ca := ca) m) (jo W tk) (ja W tk) hb hfew hline hs hp) fun σ H Q ⟨g, oa, env, h, er, sr, f⟩ => ?_
  refine PG.step er sr f fun x H1 g1 h1 u e1 sr1 v1 f1 => ?_
  cases u <;> first | exact f1.elim | skip
  rename_i a
  obtain ⟨rfl, hl⟩ := v1
  refine ⟨rfl, ?_⟩
  refine stepA (er.ext sr.sane e1) sr1 f1 fun ys H2 g2 h2 vs e2 sr2 v2 f2 => ?_
  obtain ⟨w, ew, q⟩ := finB f2
  exact ⟨g2, h2, a, vs, rfl, sr2, v2, hl, w, ew, q⟩
theorem je_ms0 {m : Ms} {o : Expr} {mo : En → Hm → Rs PV} {apos cpos : Pos} (jo : JE ca X o mo) (hb : attributeBase o (Str.ofString (msNm m)) X.env (eval o X.env) = eval o X.env) (hline : (apos.endLine == cpos.line) = true) :
    JE ca X (.Call (.Attribute o (Str.ofString (msNm m)) apos) [] [] cpos) fun env h => bindR (mo env h) fun u h1 => match u with
      | .str a => bindR (okR [] h1) fun vs h2 => liftR (sMt h2 m a vs) h2
      | _ => none := by
  intro W tk
  refine PE_imp (pe_bm0 PySem.F.plainAttrs_str (ms_slot m) (ms_type m) (ms_mt (ca := ca) m) (jo W tk) hb hline) fun σ H Q ⟨g, oa, env, h, er, sr, f⟩ => ?_
  refine PG.step er sr f fun x H1 g1 h1 u e1 sr1 v1 f1 => ?_
  cases u <;> first | exact f1.elim | skip
  rename_i a
  obtain ⟨rfl, hl⟩ := v1
  obtain ⟨w, ew, q⟩ := finB f1
  exact ⟨rfl, g1, h1, a, [], rfl, sr1, rfl, hl, w, ew, q⟩
end
end PG


set_option Elab.async false
set_option maxRecDepth 100000
set_option linter.unusedVariables false
/-! PgS12: op=, the least, the greatest, sorted; reversed, enumerate; extend, pop. -/
namespace PG
open PySem L2

/-! ### order -/
theorem insI_perm (x : Int) : ∀ l : List Int, (insI x l).Perm (x :: l)
  | [] => .refl _
  | y :: r => by
    unfold insI
    split
    · exact .refl _
    · exact ((insI_perm x r).cons y).trans (.swap x y r)
theorem srtI_perm : ∀ l : List Int, (srtI l).Perm l
  | [] => .refl _
  | x :: r => by
    show (insI x (srtI r)).Perm (x :: r)
    exact (insI_perm x _).trans ((srtI_perm r).cons x)
theorem insI_sorted (x : Int) : ∀ {l : List Int}, l.Pairwise (· ≤ ·) → (insI x l).Pairwise (· ≤ ·)
  | [], _ => List.pairwise_singleton _ _
  | y :: r, h => by
    unfold insI
    have h' := List.pairwise_cons.mp h
    split
    · rename_i hxy
      refine List.pairwise_cons.mpr ⟨fun z hz => ?_, h⟩
      rcases List.mem_cons.mp hz with rfl | hz
      · exact hxy
      · exact Int.le_trans hxy (h'.1 z hz)
    · rename_i hxy
      refine List.pairwise_cons.mpr ⟨fun z hz => ?_, insI_sorted x h'.2⟩
      rcases List.mem_cons.mp ((insI_perm x r).mem_iff.mp hz) with rfl | hz
      · omega
      · exact h'.1 z hz
theorem srtI_sorted : ∀ l : List Int, (srtI l).Pairwise (· ≤ ·)
  | [] => .nil
  | x :: r => insI_sorted x (srtI_sorted r)
theorem srtI_uniq {l m : List Int} (p : m.Perm l) (s : m.Pairwise (· ≤ ·)) : m = srtI l :=
  (p.trans (srtI_perm l).symm).eq_of_pairwise (fun a b _ _ h1 h2 => Int.le_antisymm h1 h2) s (srtI_sorted l)
theorem leS_total (a b : Str) : leS a b = true ∨ leS b a = true := by
  unfold leS
  by_cases h : b.cps.toList < a.cps.toList
  · exact .inr (by simp [List.not_lt.mpr (List.le_of_lt h)])
  · exact .inl (by simp [h])
theorem leS_trans {a b c : Str} (h1 : leS a b = true) (h2 : leS b c = true) : leS a c = true := by
  unfold leS at *
  simp only [Bool.not_eq_true', decide_eq_false_iff_not, List.not_lt] at *
  exact List.le_trans h1 h2
theorem leS_anti {a b : Str} (h1 : leS a b = true) (h2 : leS b a = true) : a = b := by
  unfold leS at *
  simp only [Bool.not_eq_true', decide_eq_false_iff_not, List.not_lt] at *
  have e := List.le_antisymm h1 h2
  cases a; cases b
  simp only [Str.mk.injEq]
  exact Array.toList_inj.mp e
theorem insS_perm (x : Str) : ∀ l : List Str, (insS x l).Perm (x :: l)
  | [] => .refl _
  | y :: r => by
    unfold insS
    split
    · exact .refl _
    · exact ((insS_perm x r).cons y).trans (.swap x y r)
theorem srtS_perm : ∀ l : List Str, (srtS l).Perm l
  | [] => .refl _
  | x :: r => by
    show (insS x (srtS r)).Perm (x :: r)
    exact (insS_perm x _).trans ((srtS_perm r).cons x)
theorem insS_sorted (x : Str) : ∀ {l : List Str}, l.Pairwise (fun a b => leS a b = true) → (insS x l).Pairwise (fun a b => leS a b = true)
  | [], _ => List.pairwise_singleton _ _
  | y :: r, h => by
    unfold insS
    have h' := List.pairwise_cons.mp h
    split
    · rename_i hxy
      refine List.pairwise_cons.mpr ⟨fun z hz => ?_, h⟩
      rcases List.mem_cons.mp hz with rfl | hz
      · exact hxy
      · exact leS_trans hxy (h'.1 z hz)
    · rename_i hxy
      refine List.pairwise_cons.mpr ⟨fun z hz => ?_, insS_sorted x h'.2⟩
      rcases List.mem_cons.mp ((insS_perm x r).mem_iff.mp hz) with rfl | hz
      · exact (leS_total _ _).resolve_left hxy
      · exact h'.1 z hz
theorem srtS_sorted : ∀ l : List Str, (srtS l).Pairwise (fun a b => leS a b = true)
  | [] => .nil
  | x :: r => insS_sorted x (srtS_sorted r)
theorem srtS_uniq {l m : List Str} (p : m.Perm l) (s : m.Pairwise (fun a b => leS a b = true)) : m = srtS l :=
  (p.trans (srtS_perm l).symm).eq_of_pairwise (fun a b _ _ h1 h2 => leS_anti h1 h2) s (srtS_sorted l)
theorem maxL_some {l : List Int} {m : Int} (h : maxL l = some m) : m ∈ l ∧ ∀ y ∈ l, y ≤ m := by
  cases l with
  | nil => cases h
  | cons a r =>
    cases h
    suffices q : ∀ (r : List Int) (a : Int), (r.foldl (fun m y => if m < y then y else m) a = a ∨ r.foldl (fun m y => if m < y then y else m) a ∈ r) ∧ a ≤ r.foldl (fun m y => if m < y then y else m) a ∧ ∀ y ∈ r, y ≤ r.foldl (fun m y => if m < y then y else m) a by
      obtain ⟨q1, q2, q3⟩ := q r a
      refine ⟨?_, fun y hy => ?_⟩
      · rcases q1 with q1 | q1
        · rw [q1]; exact List.mem_cons_self ..
        · exact List.mem_cons_of_mem _ q1
      · rcases List.mem_cons.mp hy with rfl | hy
        · exact q2
        · exact q3 y hy
    intro r
    induction r with
    | nil => intro a; exact ⟨.inl rfl, Int.le_refl _, fun y hy => by cases hy⟩
    | cons b r ih =>
      intro a
      rw [List.foldl_cons]
      obtain ⟨q1, q2, q3⟩ := ih (if a < b then b else a)
      refine ⟨?_, ?_, fun y hy => ?_⟩
      · rcases q1 with q1 | q1
        · rw [q1]
          split
          · exact .inr (List.mem_cons_self ..)
          · exact .inl rfl
        · exact .inr (List.mem_cons_of_mem _ q1)
      · refine Int.le_trans ?_ q2
        split <;> omega
      · rcases List.mem_cons.mp hy with rfl | hy
        · refine Int.le_trans ?_ q2
          split <;> omega
        · exact q3 y hy
theorem minL_some {l : List Int} {m : Int} (h : minL l = some m) : m ∈ l ∧ ∀ y ∈ l, m ≤ y := by
  cases l with
  | nil => cases h
  | cons a r =>
    cases h
    suffices q : ∀ (r : List Int) (a : Int), (r.foldl (fun m y => if y < m then y else m) a = a ∨ r.foldl (fun m y => if y < m then y else m) a ∈ r) ∧ r.foldl (fun m y => if y < m then y else m) a ≤ a ∧ ∀ y ∈ r, r.foldl (fun m y => if y < m then y else m) a ≤ y by
      obtain ⟨q1, q2, q3⟩ := q r a
      refine ⟨?_, fun y hy => ?_⟩
      · rcases q1 with q1 | q1
        · rw [q1]; exact List.mem_cons_self ..
        · exact List.mem_cons_of_mem _ q1
      · rcases List.mem_cons.mp hy with rfl | hy
        · exact q2
        · exact q3 y hy
    intro r
    induction r with
    | nil => intro a; exact ⟨.inl rfl, Int.le_refl _, fun y hy => by cases hy⟩
    | cons b r ih =>
      intro a
      rw [List.foldl_cons]
      obtain ⟨q1, q2, q3⟩ := ih (if b < a then b else a)
      refine ⟨?_, ?_, fun y hy => ?_⟩
      · rcases q1 with q1 | q1
        · rw [q1]
          split
          · exact .inr (List.mem_cons_self ..)
          · exact .inl rfl
        · exact .inr (List.mem_cons_of_mem _ q1)
      · refine Int.le_trans q2 ?_
        split <;> omega
      · rcases List.mem_cons.mp hy with rfl | hy
        · refine Int.le_trans q2 ?_
          split <;> omega
        · exact q3 y hy
end PG


set_option Elab.async false
set_option maxRecDepth 100000
set_option linter.unusedVariables false
/-! PgS13: .. as rules. -/
namespace PG
open PySem L2

section
variable {ca : CA} {cf : Cf} {st : Sta} {X : Cx} {W : WX} {K : PySem.W.Frag}
theorem bl_max1 (hc : X.calm = true) (W : WX) (σ0 : St) : CallR X (.builtin "max") (rC X.K ca W blMax1 σ0) := by
  intro pins s σ H xs us Q I r ⟨g, h, ps, sr, rv, f⟩
  obtain ⟨w, ew, q⟩ := finB f
  match ps, ew with
  | [v], ew =>
    obtain ⟨y, rfl, rx⟩ := vts1 rv
    have ew : (((asLst h v).bind pInts).bind maxL).map PV.int = some w := ew
    cases hx : asLst h v with
    | none => rw [hx] at ew; cases ew
    | some ys =>
      rw [hx, Option.bind_some] at ew
      obtain ⟨a, vs, rfl, hq, t⟩ := asLst_rel sr rx hx
      cases hb : pInts ys with
      | none => rw [hb] at ew; cases ew
      | some bs =>
        rw [hb, Option.bind_some] at ew
        cases hm : maxL bs with
        | none => rw [hm] at ew; cases ew
        | some m =>
          rw [hm] at ew; cases ew
          rw [pInts_map hb] at t
          rw [t.ints] at hq
          obtain ⟨m1, m2⟩ := maxL_some hm
          refine cr_max hc pins s σ H _ us Q I r ⟨a, bs, rfl, .inl (.inl hq), List.length_pos_of_mem m1, fun k k1 k2 => ?_⟩
          have : k = m := Int.le_antisymm (m2 k k1) (k2 m m1)
          rw [this]
          exact q g H (Ext.refl _ _) sr _ rfl
theorem bl_min1 (hc : X.calm = true) (W : WX) (σ0 : St) : CallR X (.builtin "min") (rC X.K ca W blMin1 σ0) := by
  intro pins s σ H xs us Q I r ⟨g, h, ps, sr, rv, f⟩
  obtain ⟨w, ew, q⟩ := finB f
  match ps, ew with
  | [v], ew =>
    obtain ⟨y, rfl, rx⟩ := vts1 rv
    have ew : (((asLst h v).bind pInts).bind minL).map PV.int = some w := ew
    cases hx : asLst h v with
    | none => rw [hx] at ew; cases ew
    | some ys =>
      rw [hx, Option.bind_some] at ew
      obtain ⟨a, vs, rfl, hq, t⟩ := asLst_rel sr rx hx
      cases hb : pInts ys with
      | none => rw [hb] at ew; cases ew
      | some bs =>
        rw [hb, Option.bind_some] at ew
        cases hm : minL bs with
        | none => rw [hm] at ew; cases ew
        | some m =>
          rw [hm] at ew; cases ew
          rw [pInts_map hb] at t
          rw [t.ints] at hq
          obtain ⟨m1, m2⟩ := minL_some hm
          refine cr_min hc pins s σ H _ us Q I r ⟨a, bs, rfl, .inl (.inl hq), List.length_pos_of_mem m1, fun k k1 k2 => ?_⟩
          have : k = m := Int.le_antisymm (k2 m m1) (m2 k k1)
          rw [this]
          exact q g H (Ext.refl _ _) sr _ rfl
theorem ints_vrs {g : G} {H : Hp} : ∀ (l : List Int), VRs K g H (l.map PV.int) (l.map V.int)
  | [] => rfl
  | i :: r => ⟨_, _, rfl, rfl, ints_vrs r⟩
theorem sortedS_pw : ∀ {l : List Str}, PyProof.Rows.sortedS l = true → l.Pairwise (fun a b => leS a b = true)
  | [], _ => .nil
  | [a], _ => List.pairwise_singleton _ _
  | a :: b :: r, h => by
    have h : (leS a b && PyProof.Rows.sortedS (b :: r)) = true := by
      have h : (!Spec.ltCps b.cps.toList a.cps.toList && PyProof.Rows.risingS b r) = true := h
      rw [PyProof.Rows.ltCps_eq] at h
      exact h
    obtain ⟨h1, h2⟩ := Bool.and_eq_true_iff.mp h
    have t := sortedS_pw h2
    refine List.pairwise_cons.mpr ⟨fun z hz => ?_, t⟩
    rcases List.mem_cons.mp hz with rfl | hz
    · exact h1
    · exact leS_trans h1 ((List.pairwise_cons.mp t).1 z hz)
theorem all_perm {p : Str → Bool} {l m : List Str} (h : l.Perm m) (a : m.all p = true) : l.all p = true :=
  List.all_eq_true.mpr fun x hx => List.all_eq_true.mp a x (h.mem_iff.mp hx)
theorem bl_srt (W : WX) (σ0 : St) : CallR X (.builtin "sorted") (rC X.K ca W blSrt σ0) := by
  intro pins s σ H xs us Q I r ⟨g, h, ps, sr, rv, f⟩
  obtain ⟨w, ew, q⟩ := finB f
  match ps, ew with
  | [v], ew =>
    obtain ⟨y, rfl, rx⟩ := vts1 rv
    have ew : (match asLst h v with
      | none => none
      | some xs => if xs.length < 64 then match pInts xs with
          | some ns => some (PV.lst ((srtI ns).map .int))
          | none => match pStrs xs with
            | some ss => some (.lst ((srtS ss).map .str))
            | none => none
        else none) = some w := ew
    cases hx : asLst h v with
    | none => rw [hx] at ew; cases ew
    | some ys =>
      rw [hx] at ew
      dsimp only at ew
      obtain ⟨a, vs, rfl, hq, t⟩ := asLst_rel sr rx hx
      split at ew
      · rename_i hl
        cases hb : pInts ys with
        | some bs =>
          rw [hb] at ew; cases ew
          rw [pInts_map hb] at t hl
          rw [t.ints] at hq
          refine cr_sorted pins s σ H _ us Q I r ⟨a, bs, rfl, .inl (.inl hq), by simpa using hl, fun ns p pm sm hp => ?_⟩
          rw [srtI_uniq pm sm]
          exact new_list sr (ints_vrs _) hp q
        | none =>
          rw [hb] at ew
          dsimp only at ew
          cases hs : pStrs ys with
          | none => rw [hs] at ew; cases ew
          | some ss =>
            rw [hs] at ew; cases ew
            rw [pStrs_map hs] at t hl
            obtain ⟨rfl, ok⟩ := t.strs
            refine cr_sortedS pins s σ H _ us Q I r ⟨a, ss, rfl, .inl (.inl hq), by simpa using hl, fun ns p pm sm hp => ?_⟩
            rw [srtS_uniq pm (sortedS_pw sm)]
            exact new_list sr (strs_vrs (all_perm (srtS_perm _) ok)) hp q
      · cases ew

/-! ### reversed(range(..)), enumerate(..) -/
theorem wk_rev {g : G} {H : Hp} (lo : Int) (n : Nat) : Wk K ca g H (Itc (lo + (n : Int) - 1) (-1) n) ((List.range n).map fun (k : Nat) => .int (lo + ((n - 1 - k : Nat) : Int))) := by
  intro g' H' e
  refine ⟨fun i hi => ?_, fun i x hx => ?_⟩
  · rw [List.length_map, List.length_range] at hi; exact hi
  · have hi : i < n := by
      have := (List.getElem?_eq_some_iff.mp hx).1
      rw [List.length_map, List.length_range] at this; exact this
    rw [List.getElem?_map, List.getElem?_range hi] at hx
    cases hx
    refine ⟨hi, fun y H'' hy => ?_⟩
    obtain ⟨rfl, rfl⟩ := hy
    refine ⟨g', Ext.refl _ _, fun _ s => s, ?_⟩
    show V.int _ = V.int _
    congr 1
    omega
theorem rvItems_some {lo hi : Int} {xs : List PV} (h : rvItems lo hi = some xs) : (-(2 ^ 62) ≤ lo ∧ lo < 2 ^ 62 ∧ -(2 ^ 62) ≤ hi ∧ hi < 2 ^ 62) ∧ xs = (List.range (hi - lo).toNat).map fun (k : Nat) => .int (lo + ((hi - lo).toNat - 1 - k : Nat)) := by
  unfold rvItems at h
  split at h
  · cases h; exact ⟨by assumption, rfl⟩
  · cases h
theorem ji_rv1 (G : GX ca cf st X) {tg a : Expr} {m : En → Hm → Rs PV} {p pos p2 pos2 : Pos} (hg : st.names.lookup (Str.ofString "range") = some NameKind.globalImplicit) (hf : "range" ∈ st.free) (hg2 : st.names.lookup (Str.ofString "reversed") = some NameKind.globalImplicit) (hf2 : "reversed" ∈ st.free)
    (je : JE ca X a m) (he : starEach [a] X.env = (false, eval a X.env) :: starEach [] X.env) :
    JI ca X tg (.Call (.Name "reversed" p) [.Call (.Name "range" p2) [a] [] pos2] [] pos) fun env h => bindR (m env h) fun v h1 => match v with
      | .int n => liftR (rvItems 0 n) h1
      | _ => none := by
  intro W tk
  refine ⟨fun pins s σ H R I hw => ?_⟩
  refine (pi_revR (G.glo _ hg2) (G.free "reversed" hf2) (prg_1 (G.glo _ hg) (G.free "range" hf) (je W tk) he) rfl).run pins s σ H R I ?_
  obtain ⟨g, oa, env, h, er, sr, f⟩ := hw
  refine step er sr f fun x H1 g1 h1 u e1 sr1 v1 f1 => ?_
  cases u <;> first | exact f1.elim | skip
  rename_i n
  cases v1
  have f1 : Fin X.K ca W σ g1 H1 (liftR (rvItems 0 n) h1) _ := f1
  obtain ⟨xs, hx, q⟩ := f1.lift
  obtain ⟨⟨b1, b2, b3, b4⟩, rfl⟩ := rvItems_some hx
  exact ⟨n, rfl, b1, b2, b3, b4, q.here sr1 _ (wk_rev 0 (n - 0).toNat)⟩
theorem ji_rv2 (G : GX ca cf st X) {tg a b : Expr} {ma mb : En → Hm → Rs PV} {p pos p2 pos2 : Pos} (hg : st.names.lookup (Str.ofString "range") = some NameKind.globalImplicit) (hf : "range" ∈ st.free) (hg2 : st.names.lookup (Str.ofString "reversed") = some NameKind.globalImplicit) (hf2 : "reversed" ∈ st.free)
    (ja : JE ca X a ma) (jb : JE ca X b mb) (he : starEach [a, b] X.env = (false, eval a X.env) :: starEach [b] X.env) (he2 : starEach [b] X.env = (false, eval b X.env) :: starEach [] X.env) :
    JI ca X tg (.Call (.Name "reversed" p) [.Call (.Name "range" p2) [a, b] [] pos2] [] pos) fun env h => bindR (ma env h) fun u h1 => bindR (mb env h1) fun v h2 => match u, v with
      | .int m, .int n => liftR (rvItems m n) h2
      | _, _ => none := by
  intro W tk
  refine ⟨fun pins s σ H R I hw => ?_⟩
  refine (pi_revR (G.glo _ hg2) (G.free "reversed" hf2) (prg_2 (G.glo _ hg) (G.free "range" hf) (ja W tk) (jb W tk) he he2 (by rw [he2]; rfl)) rfl).run pins s σ H R I ?_
  obtain ⟨g, oa, env, h, er, sr, f⟩ := hw
  refine step er sr f fun x H1 g1 h1 u e1 sr1 v1 f1 => ?_
  refine step (er.ext sr.sane e1) sr1 f1 fun y H2 g2 h2 v e2 sr2 v2 f2 => ?_
  cases u <;> first | exact f2.elim | skip
  cases v <;> first | exact f2.elim | skip
  rename_i m n
  cases v1; cases v2
  have f2 : Fin X.K ca W σ g2 H2 (liftR (rvItems m n) h2) _ := f2
  obtain ⟨xs, hx, q⟩ := f2.lift
  obtain ⟨⟨b1, b2, b3, b4⟩, rfl⟩ := rvItems_some hx
  exact ⟨m, n, rfl, rfl, b1, b2, b3, b4, q.here sr2 _ (wk_rev m (n - m).toNat)⟩
theorem wk_enu {g : G} {H : Hp} {a : Addr} {xs : List PV} {vs : List V} (hq : H a = some (.lst vs)) (hm : ¬ g.M a) (t : VRs K g H xs vs) : Wk K ca g H (Ite K a) (enItems xs) := by
  intro g' H' e
  have hq' := e.keep a _ hq hm
  have t' := t.extM e
  refine ⟨fun i hi => ⟨vs, .inl (.inl hq'), by rw [t'.length]; simpa [enItems] using hi⟩, fun i x hx => ?_⟩
  unfold enItems at hx
  have hi : i < xs.length := by
    have := (List.getElem?_eq_some_iff.mp hx).1
    simpa using this
  rw [List.getElem?_map, List.getElem?_range hi] at hx
  cases hx
  obtain ⟨b, hb, rb⟩ := t'.get (List.getElem?_eq_getElem hi)
  refine ⟨⟨vs, b, .inl (.inl hq'), hb⟩, fun y H'' hy => ?_⟩
  obtain ⟨T, z, rfl, hT, rfl, hz⟩ := hy
  have := hz vs (.inl (.inl hq'))
  rw [hb] at this
  cases this
  have eq : xs.getD i PV.non = xs[i] := by simp [List.getD, List.getElem?_eq_getElem hi]
  refine ⟨g'.fix T, Ext.fix hT, fun h' s => s.fix hT, T, _, rfl, .inl upd_same, _, _, rfl, rfl, _, _, rfl, ?_, rfl⟩
  rw [eq]
  have eM : ExtM g' H' (g'.fix T) (upd H' T (.tup [.int (i : Nat), b])) := ⟨⟨[], by simp⟩, fun x q => .inl q.1, fun x o q m => (upd_ne fun z => by rw [z, hT] at q; cases q).trans q, fun x xs q => (upd_ne fun z => by rw [z, hT] at q; cases q).trans q⟩
  exact rb.extM eM
theorem ji_enu (G : GX ca cf st X) {a : Expr} {m : En → Hm → Rs PV} {p pos tpos : Pos} {elts : List Expr} {kk : Nat} (hg : st.names.lookup (Str.ofString "enumerate") = some NameKind.globalImplicit) (hf : "enumerate" ∈ st.free) (je : JE ca X a m) (he : starEach [a] X.env = (false, eval a X.env) :: starEach [] X.env) :
    JI ca X (.Tuple elts kk tpos) (.Call (.Name "enumerate" p) [a] [] pos) fun env h => bindR (m env h) fun v h1 => match v with
      | .lst xs => okR (enItems xs) h1
      | _ => none := by
  intro W tk
  refine ⟨fun pins s σ H R I hw => ?_⟩
  refine (pi_enum (G.glo _ hg) (G.free "enumerate" hf) (pa_cons (je W tk) pa_nil he) he).run pins s σ H R I ?_
  obtain ⟨g, oa, env, h, er, sr, f⟩ := hw
  refine step er sr f fun x H1 g1 h1 u e1 sr1 v1 f1 => ?_
  cases u <;> first | exact f1.elim | skip
  rename_i xs
  obtain ⟨a, vs, rfl, hq, hM, t⟩ := v1
  exact ⟨a, vs, rfl, .inl (.inl hq), f1.here sr1 _ (wk_enu hq hM t)⟩
end
end PG


set_option Elab.async false
set_option maxRecDepth 100000
set_option linter.unusedVariables false
/-! PgS14: x op= e; x.extend(e), x.pop(). -/
namespace PG
open PySem L2

def boAst : Bo → Operator
  | .add => .Add
  | .sub => .Sub
  | .mul => .Mult
  | .fdiv => .FloorDiv
  | .mod => .Mod
  | .pow => .Pow
section
variable {ca : CA} {cf : Cf} {st : Sta} {X : Cx} {W : WX} {K : PySem.W.Frag}
def tiA (op : Bo) : TIp := fun x y H Q => ∃ i j k, x = .int i ∧ y = .int j ∧ augOp op (.int i) (.int j) = some (.int k) ∧ Q (.int k) H
theorem ip_aug (op : Bo) : PIp X (boAst op) (tiA op) := by
  intro pins s σ H x y v u Q I r1 r2 ⟨i, j, k, h1, h2, e, q⟩
  cases op <;> first | (cases e; done) | skip
  · cases e
    exact ip_add pins s σ H x y v u Q I r1 r2 ⟨i, j, h1, h2, q⟩
  · cases e
    exact ip_sub pins s σ H x y v u Q I r1 r2 ⟨i, j, h1, h2, q⟩
theorem augOp_cases {op : Bo} {u v w : PV} (e : augOp op u v = some w) : ∃ i j k, u = .int i ∧ v = .int j ∧ w = .int k ∧ augOp op (.int i) (.int j) = some (.int k) := by
  cases op <;> first | (cases e; done) | skip
  all_goals
    cases u <;> first | (cases e; done) | skip
    cases v <;> first | (cases e; done) | skip
    cases e
    exact ⟨_, _, _, rfl, rfl, rfl, rfl⟩
theorem js_aug (G : GX ca cf st X) {i : Nat} {y : Str} {e : Expr} {op : Bo} {m : En → Hm → Rs PV} {p pos : Pos} (hN : st.N[i]? = some y) (hl : locB st y = true) (je : JE ca X e m) :
    JS ca X (.AugAssign (.Name y p) (boAst op) e pos) fun env h => match slGet env i with
    | some u => bindS (m env h) env fun v h1 => match augOp op u v with
      | some w => if w.nb = true then some (.nx, env.set i (.val w), h1) else none
      | none => none
    | none => none := fun W b tk => by
  obtain ⟨l1, l2⟩ := G.loca hl
  refine PS_imp (ps_aug G.nd (by rw [G.hN]; exact hN) l1 (je W tk) (ip_aug op) l2) fun D σ H ⟨g, oa, env, h, fr, f⟩ => ?_
  dsimp only at f
  split at f
  · rename_i u hu
    obtain ⟨x, hx, rx⟩ := slGet_rel fr.er hu
    refine ⟨x, hx, ?_⟩
    refine sstep fr f fun z H1 g1 h1 v e1 fr1 v1 f1 => ?_
    split at f1
    · rename_i w hw
      obtain ⟨a, c, k, rfl, rfl, rfl, ea⟩ := augOp_cases hw
      rw [if_pos (show (PV.int k).nb = true from rfl)] at f1
      cases rx; cases v1
      have hi : i < env.length := by
        unfold slGet at hu
        cases he : env[i]? with
        | none => rw [he] at hu; cases hu
        | some z => exact (List.getElem?_eq_some_iff.mp he).1
      refine ⟨a, c, k, rfl, rfl, ea, ?_⟩
      exact f1 _ H1 g1 _ (fr1.slots (fr1.er.setVal hi (show VR X.K g1 H1 (.int k) (.int k) from rfl)) fun j d q => by
        by_cases z : j = i
        · rw [if_pos z] at q; cases q
        · rw [if_neg z] at q; exact q)
    · exact f1.elim
  · exact f.elim

/-! ### extend, pop -/
theorem refExt_ok {b : Bs} {env : En} {h : Hm} {σ : St} {H : Hp} {g : G} {oa : Nat → Option Addr} {D : Ends} {n : Nat} {a c : Addr} {zs : List PV} {vz : List V} (fr : FR K ca b env h σ H g oa) (hn : g.φ[n]? = some a) (hc : H c = some (.lst vz)) (tz : VRs K g H zs vz) (f : FinS K ca W b (refExt env h zs n) D) :
    rExtend (.ref a) [.ref c] H fun _ H' => D.nx σ H' := by
  unfold refExt at f
  split at f
  · rename_i xs hx
    split at f
    · rename_i hl
      obtain ⟨vs, h1, t⟩ := fr.sr.obj n a _ hn hx
      exact ⟨a, c, vs, vz, rfl, rfl, h1, hc, by rw [t.length, tz.length]; exact hl, f σ _ g oa (fr.cell hn h1 (t.append tz))⟩
    · exact f.elim
  · exact f.elim
theorem js_extV (G : GX ca cf st X) {i : Nat} {x : Str} {e : Expr} {m : En → Hm → Rs PV} {p apos cpos pos : Pos} (hN : st.N[i]? = some x) (hv : visB st x = true) (hd : (x == ("__debug__" : Str)) = false) (hcd : (x == ("__classdict__" : Str)) = false)
    (je : JE ca X e m) (hline : (apos.endLine == cpos.line) = true) (he : starEach [e] X.env = (false, eval e X.env) :: starEach [] X.env) :
    JS ca X (.Expr (.Call (.Attribute (.Name x p) "extend" apos) [e] [] cpos) pos) fun env h => match env[i]? with
    | some (.own xs) => bindS (m env h) env fun v h1 => match asLst h1 v with
      | some zs => if xs.length + zs.length ≤ sizeLine then some (.nx, env.set i (.own (xs ++ zs)), h1) else none
      | none => none
    | some (.val u) => match isCell h u with
      | some n => bindS (m env h) env fun v h1 => match asLst h1 v with
        | some zs => refExt env h1 zs n
        | none => none
      | none => none
    | _ => none := by
  intro W b tk
  refine PS_imp (ps_expr (pe_bm PySem.F.plainAttrs_list PySem.F.slot_list_extend PySem.F.type_list_extend mt_extend (pe_var (i := i) (by rw [G.hN]; exact hN) (G.vis hv) hd hcd) (pa_cons (je W tk) pa_nil he) rfl (hfew1 he) hline he rfl) rfl) ?_
  intro D σ H ⟨g, oa, env, h, fr, f⟩
  dsimp only at f
  split at f
  · rename_i xs hx
    obtain ⟨y, hy, a, vs, rfl, ho, hH, t⟩ := fr.er.at hx
    refine ⟨_, hy, .inl ⟨rfl, vs, .inl (.inl hH)⟩, ?_⟩
    refine sstep fr f fun z H1 g1 h1 v e1 fr1 v1 f1 => ?_
    split at f1
    · rename_i zs hz
      split at f1
      · rename_i hl
        obtain ⟨y', hy', a', vs', q, ho', hH', t'⟩ := fr1.er.at hx
        rw [hy] at hy'; cases hy'; cases q
        obtain ⟨c, vz, rfl, hc, tz⟩ := asLst_rel fr1.sr v1 hz
        exact ⟨a, c, vs', vz, rfl, rfl, hH', hc, by rw [t'.length, tz.length]; exact hl, f1 σ _ g1 oa (fr1.put ho hy hH' (t'.append tz) (List.getElem?_eq_some_iff.mp hx).1)⟩
      · exact f1.elim
    · exact f1.elim
  · rename_i u hx
    split at f
    · rename_i n hn
      obtain ⟨y, hy, _, z, rfl, r⟩ := fr.er.at hx
      obtain ⟨rfl, a, vs, xs, rfl, q1, q2, q3, t⟩ := isCell_rel fr.sr r.vt hn
      refine ⟨_, hy, .inl ⟨rfl, vs, .inl (.inl q2)⟩, ?_⟩
      refine sstep fr f fun z H1 g1 h1 v e1 fr1 v1 f1 => ?_
      split at f1
      · rename_i zs hz
        obtain ⟨c, vz, rfl, hc, tz⟩ := asLst_rel fr1.sr v1 hz
        exact refExt_ok fr1 (e1.φget q1) hc tz f1
      · exact f1.elim
    · exact f.elim
  · exact f.elim
theorem VRs.dropLast {g : G} {H : Hp} {x : List PV} {v : List V} (t : VRs K g H x v) : VRs K g H x.dropLast v.dropLast := by
  rw [List.dropLast_eq_take, List.dropLast_eq_take, t.length]
  exact t.take _
theorem popOf_ok {b : Bs} {env env1 : En} {h h1 : Hm} {σ : St} {H : Hp} {g : G} {oa : Nat → Option Addr} {i : Nat} {y : PV} (fr : FR K ca b env h σ H g oa) (e : popOf env h i = some (y, env1, h1)) :
    ∃ l vs z, σ[i]? = some (some (.ref l)) ∧ H l = some (.lst vs) ∧ vs[vs.length - 1]? = some z ∧ VR K g (upd H l (.lst vs.dropLast)) y z ∧ FR K ca b env1 h1 σ (upd H l (.lst vs.dropLast)) g oa := by
  have last : ∀ {xs : List PV} {vs : List V} {y : PV}, VRs K g H xs vs → xs.getLast? = some y → ∃ z, vs[vs.length - 1]? = some z ∧ VR K g H y z := fun t hy => by
    rw [List.getLast?_eq_getElem?] at hy
    obtain ⟨z, h1, h2⟩ := t.get hy
    exact ⟨z, by rw [t.length]; exact h1, h2⟩
  unfold popOf at e
  split at e
  · rename_i xs hx
    split at e
    · rename_i w hw
      cases e
      obtain ⟨y', hy, a, vs, rfl, ho, hH, t⟩ := fr.er.at hx
      obtain ⟨z, h2, h3⟩ := last t hw
      obtain ⟨m1, m2, m3⟩ := fr.er.mem i a ho
      have eM : ExtM g H g (upd H a (.lst vs.dropLast)) := ⟨⟨[], by simp⟩, fun x q => .inl q, fun x o q m => by rw [upd_ne (fun z : x = a => m (by rw [z]; exact m1))]; exact q,
        fun x xs q => by rw [upd_ne (fun z : x = a => by rw [z, hH] at q; cases q)]; exact q⟩
      exact ⟨a, vs, z, hy, hH, h2, h3.extM eM, fr.put ho hy hH t.dropLast (List.getElem?_eq_some_iff.mp hx).1⟩
    · cases e
  · rename_i n hx
    split at e
    · rename_i xs hn
      split at e
      · rename_i w hw
        cases e
        obtain ⟨y', hy, _, z', rfl, a, hφ, rfl⟩ := fr.er.at hx
        obtain ⟨vs, hH, t⟩ := fr.sr.obj n a _ hφ hn
        obtain ⟨z, h2, h3⟩ := last t hw
        have m1 := fr.sr.mem a (List.mem_of_getElem? hφ)
        have eM : ExtM g H g (upd H a (.lst vs.dropLast)) := ⟨⟨[], by simp⟩, fun x q => .inl q, fun x o q m => by rw [upd_ne (fun z : x = a => m (by rw [z]; exact m1))]; exact q,
          fun x xs q => by rw [upd_ne (fun z : x = a => by rw [z, hH] at q; cases q)]; exact q⟩
        exact ⟨a, vs, z, hy, hH, h2, h3.extM eM, fr.cell hφ hH t.dropLast⟩
      · cases e
    · cases e
  · cases e
theorem js_popX (G : GX ca cf st X) {i : Nat} {x : Str} {p apos cpos pos : Pos} (hN : st.N[i]? = some x) (hv : visB st x = true) (hd : (x == ("__debug__" : Str)) = false) (hcd : (x == ("__classdict__" : Str)) = false) (hline : (apos.endLine == cpos.line) = true) :
    JS ca X (.Expr (.Call (.Attribute (.Name x p) "pop" apos) [] [] cpos) pos) fun env h => match popOf env h i with
    | some (_, env1, h1) => some (.nx, env1, h1)
    | none => none := by
  intro W b tk
  refine PS_imp (ps_expr (pe_bm0 PySem.F.plainAttrs_list PySem.F.slot_list_pop PySem.F.type_list_pop mt_pop (pe_var (i := i) (by rw [G.hN]; exact hN) (G.vis hv) hd hcd) rfl hline) rfl) ?_
  intro D σ H ⟨g, oa, env, h, fr, f⟩
  dsimp only at f
  split at f
  · rename_i y env1 h1 he
    obtain ⟨l, vs, z, h2, h3, h4, h5, fr'⟩ := popOf_ok fr he
    exact ⟨_, h2, .inl ⟨rfl, vs, .inl (.inl h3)⟩, l, vs, z, rfl, rfl, h3, h4, f σ _ g oa fr'⟩
  · exact f.elim
theorem js_popV (G : GX ca cf st X) {tg : Expr} {pt : Pt} {i : Nat} {x : Str} {p apos cpos pos : Pos} (hN : st.N[i]? = some x) (hv : visB st x = true) (hd : (x == ("__debug__" : Str)) = false) (hcd : (x == ("__classdict__" : Str)) = false) (hline : (apos.endLine == cpos.line) = true)
    (hg : PG X tg (gPt X.K pt)) (hs : swapsWithSole [tg] (.Call (.Attribute (.Name x p) "pop" apos) [] [] cpos) pos.line X.env = pure false) (hw : swappedStores [tg] (.Call (.Attribute (.Name x p) "pop" apos) [] [] cpos) X.env = pure none) (h1 : (assignEach [tg] X.env).map (·.2) = [assign tg X.env]) :
    JS ca X (.Assign [tg] (.Call (.Attribute (.Name x p) "pop" apos) [] [] cpos) pos) fun env h => match popOf env h i with
    | some (y, env1, h1) => match ptSet env1 pt y with
      | some env2 => some (.nx, env2, h1)
      | none => none
    | none => none := by
  intro W b tk
  refine PS_imp (ps_asg (pe_bm0 PySem.F.plainAttrs_list PySem.F.slot_list_pop PySem.F.type_list_pop mt_pop (pe_var (i := i) (by rw [G.hN]; exact hN) (G.vis hv) hd hcd) rfl hline) hg hs hw h1) ?_
  intro D σ H ⟨g, oa, env, h, fr, f⟩
  dsimp only at f
  split at f
  · rename_i y env1 h1 he
    obtain ⟨l, vs, z, h2, h3, h4, h5, fr'⟩ := popOf_ok fr he
    split at f
    · rename_i env2 hp
      refine ⟨_, h2, .inl ⟨rfl, vs, .inl (.inl h3)⟩, l, vs, z, rfl, rfl, h3, h4, ?_⟩
      exact pt_ok fr'.er h5.vt hp fun σ' oa' er' _ ho => f σ' _ g oa' (fr'.slots er' ho)
    · exact f.elim
  · exact f.elim
end
end PG


set_option Elab.async false
set_option maxRecDepth 100000
set_option linter.unusedVariables false
/-! PgC1: is this small text that text? The look. -/
namespace PG
open PySem L2

mutual
def PV.eqc : PV → PV → Bool
  | .non, .non => true
  | .bl a, .bl b => a == b
  | .int a, .int b => a == b
  | .str a, .str b => decide (a = b)
  | .tup xs, .tup ys => PV.eqcs xs ys
  | _, _ => false
def PV.eqcs : List PV → List PV → Bool
  | [], [] => true
  | x :: xs, y :: ys => PV.eqc x y && PV.eqcs xs ys
  | _, _ => false
end
mutual
theorem PV.eqc_eq : ∀ {a b : PV}, PV.eqc a b = true → a = b
  | .non, b, h => by cases b <;> first | rfl | cases h
  | .bl _, b, h => by
    cases b <;> first | (cases h; done) | skip
    rw [eq_of_beq (show (_ == _) = true from h)]
  | .int _, b, h => by
    cases b <;> first | (cases h; done) | skip
    rw [eq_of_beq (show (_ == _) = true from h)]
  | .str _, b, h => by
    cases b <;> first | (cases h; done) | skip
    rw [of_decide_eq_true (show decide (_ = _) = true from h)]
  | .tup _, b, h => by
    cases b <;> first | (cases h; done) | skip
    rw [PV.eqcs_eq (show PV.eqcs _ _ = true from h)]
  | .lst _, b, h => by cases b <;> cases h
  | .bor _, b, h => by cases b <;> cases h
  | .dct _, b, h => by cases b <;> cases h
  | .bod _, b, h => by cases b <;> cases h
  | .ref _, b, h => by cases b <;> cases h
  | .scr _, b, h => by cases b <;> cases h
  | .ty _, b, h => by cases b <;> cases h
theorem PV.eqcs_eq : ∀ {a b : List PV}, PV.eqcs a b = true → a = b
  | [], b, h => by cases b <;> first | rfl | cases h
  | x :: xs, b, h => by
    cases b with
    | nil => cases h
    | cons y ys =>
      obtain ⟨h1, h2⟩ := Bool.and_eq_true_iff.mp (show (PV.eqc x y && PV.eqcs xs ys) = true from h)
      rw [PV.eqc_eq h1, PV.eqcs_eq h2]
end

def isGlo (st : Sta) (x : Str) : Bool := decide (st.names.lookup x = some .globalImplicit)
def nodb (x : Str) : Bool := !(x == ("__debug__" : Str)) && !(x == ("__classdict__" : Str))
def coAst : Co → CmpOp
  | .eq => .Eq
  | .ne => .NotEq
  | .lt => .Lt
  | .le => .LtE
  | .gt => .Gt
  | .ge => .GtE
  | .is => .Is
  | .isnot => .IsNot
  | .isin => .In
  | .notin => .NotIn
def blAst : Bl → String × Nat
  | .len => ("len", 1)
  | .int1 => ("int", 1)
  | .min2 => ("min", 2)
  | .max2 => ("max", 2)
  | .min3 => ("min", 3)
  | .tup1 => ("tuple", 1)
  | .all1 => ("all", 1)
  | .any1 => ("any", 1)
  | .sum1 => ("sum", 1)
  | .ord1 => ("ord", 1)
  | .isi => ("isinstance", 2)
  | .min1 => ("min", 1)
  | .max1 => ("max", 1)
  | .srt1 => ("sorted", 1)
def cstB : PV → Const → Bool
  | .non, .none => true
  | .bl a, .bool b => a == b
  | .int a, .int b => a == b
  | .str a, .str b => decide (a = b) && decide (a.length ≤ sizeLine)
  | _, _ => false
def namesOf (st : Sta) : List Nat → List Expr → Bool
  | [], [] => true
  | i :: is, .Name x _ :: es => decide (st.N[i]? = some x) && locB st x && namesOf st is es
  | _, _ => false
def chkPt (st : Sta) : Pt → Expr → Bool
  | .nm i, .Name x _ => decide (st.N[i]? = some x) && locB st x
  | .tp is, .Tuple es _ _ => namesOf st is es
  | _, _ => false
def ptOwn (st : Sta) (p : Pt) : List (Str × Nat) := (ptSlots p).map fun i => (st.N.getD i Str.empty, i)
def scOf (st : Sta) : Scope := { kind := .function, names := st.names, isGenerator := false, isCoroutine := false }
def Sta.blk (st : Sta) (sc : Scope) : Sta := { st with names := sc.names }

def chkCall1 (n : String) (st : Sta) (f : Expr) (xs : List Expr) (ks : List Keyword) (k : Expr → Bool) : Bool :=
  match f with
  | .Name g _ => match xs with
    | [x] => match ks with
      | [] => decide (Str.ofString n = g) && isGlo st g && st.free.contains n && k x
      | _ => false
    | _ => false
  | _ => false
theorem chkCall1_of {n : String} {st : Sta} {f : Expr} {xs : List Expr} {ks : List Keyword} {k : Expr → Bool} (h : chkCall1 n st f xs ks k = true) :
    ∃ p x, f = .Name (Str.ofString n) p ∧ xs = [x] ∧ ks = [] ∧ st.names.lookup (Str.ofString n) = some .globalImplicit ∧ n ∈ st.free ∧ k x = true := by
  unfold chkCall1 at h
  split at h
  · split at h
    · split at h
      · rename_i _ g p _ x _
        simp only [Bool.and_eq_true, decide_eq_true_eq] at h
        obtain ⟨⟨⟨h1, h2⟩, h3⟩, h4⟩ := h
        subst h1
        exact ⟨p, x, rfl, rfl, rfl, of_decide_eq_true h2, List.contains_iff_mem.mp h3, h4⟩
      · cases h
    · cases h
  · cases h
def chkCall2 (n : String) (st : Sta) (f : Expr) (xs : List Expr) (ks : List Keyword) (k : Expr → Expr → Bool) : Bool :=
  match f with
  | .Name g _ => match xs with
    | [x, y] => match ks with
      | [] => decide (Str.ofString n = g) && isGlo st g && st.free.contains n && k x y
      | _ => false
    | _ => false
  | _ => false
theorem chkCall2_of {n : String} {st : Sta} {f : Expr} {xs : List Expr} {ks : List Keyword} {k : Expr → Expr → Bool} (h : chkCall2 n st f xs ks k = true) :
    ∃ p x y, f = .Name (Str.ofString n) p ∧ xs = [x, y] ∧ ks = [] ∧ st.names.lookup (Str.ofString n) = some .globalImplicit ∧ n ∈ st.free ∧ k x y = true := by
  unfold chkCall2 at h
  split at h
  · split at h
    · split at h
      · rename_i _ g p _ x y _
        simp only [Bool.and_eq_true, decide_eq_true_eq] at h
        obtain ⟨⟨⟨h1, h2⟩, h3⟩, h4⟩ := h
        subst h1
        exact ⟨p, x, y, rfl, rfl, rfl, of_decide_eq_true h2, List.contains_iff_mem.mp h3, h4⟩
      · cases h
    · cases h
  · cases h
def notLC : Expr → Bool
  | .ListComp _ _ _ _ => false
  | _ => true
def notCall : Expr → Bool
  | .Call _ _ _ _ => false
  | _ => true
/-- no call without arguments (that could be super()) -/
def notCall0 : Expr → Bool
  | .Call (.Name _ _) [] [] _ => false
  | _ => true
def isTup : Expr → Bool
  | .Tuple _ _ _ => true
  | _ => false
def itTg : Iv → Expr → Bool
  | .enu _, tg => isTup tg
  | _, _ => true
def asgPair : Expr → Expr → Bool
  | .Tuple _ _ _, .Tuple _ _ _ => false
  | .Name _ _, _ => true
  | _, .ListComp _ _ _ _ => false
  | _, _ => true
def notBool : E → Bool
  | .not _ => false
  | .bop _ _ => false
  | .ife _ _ _ => false
  | _ => true
mutual
def chkE (st : Sta) : E → Expr → Bool
  | .var i, .Name x _ => decide (st.N[i]? = some x) && visB st x && nodb x
  | .cst c, .Constant k _ _ => cstB c k
  | .glb x c, .Name y _ => decide (Str.ofString x = y) && isGlo st y && nodb y && (match st.consts.lookup x with
    | some d => PV.eqc d c
    | none => false)
  | .tup es, .Tuple xs _ _ => chkEs st es xs
  | .lst l, e => chkL st l e
  | .rf l, e => chkL st l e
  | .bin op a b, .BinOp l o r _ => decide (boAst op = o) && chkE st a l && chkE st b r
  | .neg a, .UnaryOp .USub x _ => chkE st a x
  | .cmp op a b, .Compare l [o] [r] _ => decide (coAst op = o) && chkE st a l && chkE st b r
  | .chn op1 op2 a b c, .Compare l [o1, o2] [r, q] _ => decide (coAst op1 = o1) && decide (coAst op2 = o2) && chkE st a l && chkE st b r && chkE st c q
  | .not t, .UnaryOp .Not x _ => chkV st t x
  | .bop k es, .BoolOp o xs _ => decide ((if k then BoolOp.And else BoolOp.Or) = o) && chkEs st es xs
  | .ife c a b, .IfExp t x y _ => chkT st c t && chkE st a x && chkE st b y
  | .idx a i, .Subscript x s _ => chkE st a x && chkE st i s
  | .slc a lo hi, .Subscript x (.Slice l h none _) _ => chkE st a x && chkO st lo l && chkO st hi h
  | .call f es, .Call (.Name g _) xs [] _ => decide (Str.ofString f = g) && isGlo st g && st.fns.any (fun q => q.1 == f) && chkEs st es xs
  | .blt b es, .Call (.Name g _) xs [] _ => decide (Str.ofString (blAst b).1 = g) && isGlo st g && st.free.contains (blAst b).1 && decide (xs.length = (blAst b).2) && chkEs st es xs
  | .bty n, .Name x _ => decide (Str.ofString n = x) && isGlo st x && st.free.contains n && tyKnown.contains n
  | .ms m o es, .Call (.Attribute x a p) xs [] c => decide (Str.ofString (msNm m) = a) && (p.endLine == c.line) && notCall0 x && decide (xs.length < 5) && chkE st o x && chkEs st es xs
  | _, _ => false
def chkEs (st : Sta) : Es → List Expr → Bool
  | .nil, [] => true
  | .cons e r, x :: xs => chkE st e x && chkEs st r xs
  | _, _ => false
def chkO (st : Sta) : Oe → Option Expr → Bool
  | .no, none => true
  | .so e, some x => chkE st e x
  | _, _ => false
/-- a value by its truth -/
def chkV (st : Sta) : T → Expr → Bool
  | .tru e, x => chkE st e x
  | _, _ => false
def chkT (st : Sta) : T → Expr → Bool
  | .tru e, x => chkE st e x && notBool e
  | .not t, .UnaryOp .Not x _ => chkT st t x
  | .bop k ts, .BoolOp o xs _ => decide ((if k then BoolOp.And else BoolOp.Or) = o) && chkTs st ts xs
  | _, _ => false
def chkTs (st : Sta) : Ts → List Expr → Bool
  | .nil, [] => true
  | .cons t r, x :: xs => chkT st t x && chkTs st r xs
  | _, _ => false
def chkC (st : Sta) : Ot → List Expr → Bool
  | .no, [] => true
  | .so t, [x] => chkT st t x
  | _, _ => false
def chkL (st : Sta) : L → Expr → Bool
  | .dsp es, .List xs _ => chkEs st es xs
  | .cmp p it c e, .ListComp elt [⟨tg, iter, ifs, 0⟩] sc _ => chkI st it iter && itTg it tg && blkC st.N (scOf st) sc (ptOwn st p) && chkPt (st.blk sc) p tg && chkC (st.blk sc) c ifs && chkE (st.blk sc) e elt
  | .lof e, .Call f xs ks _ => chkCall1 "list" st f xs ks fun x => chkE st e x
  | .lrg e, .Call f xs ks _ => chkCall1 "list" st f xs ks fun x => (match x with
    | .Call f2 xs2 ks2 _ => chkCall1 "range" st f2 xs2 ks2 fun y => chkE st e y
    | _ => false)
  | _, _ => false
def chkI (st : Sta) : Iv → Expr → Bool
  | .val e, x => chkE st e x
  | .rg1 a, .Call f xs ks _ => chkCall1 "range" st f xs ks fun x => chkE st a x
  | .rg2 a b, .Call f xs ks _ => chkCall2 "range" st f xs ks fun x y => chkE st a x && chkE st b y
  | .rv1 a, .Call f xs ks _ => chkCall1 "reversed" st f xs ks fun x => (match x with
    | .Call f2 xs2 ks2 _ => chkCall1 "range" st f2 xs2 ks2 fun y => chkE st a y
    | _ => false)
  | .rv2 a b, .Call f xs ks _ => chkCall1 "reversed" st f xs ks fun x => (match x with
    | .Call f2 xs2 ks2 _ => chkCall2 "range" st f2 xs2 ks2 fun y z => chkE st a y && chkE st b z
    | _ => false)
  | .enu e, .Call f xs ks _ => chkCall1 "enumerate" st f xs ks fun x => chkE st e x
  | _, _ => false
end
mutual
def chkS (st : Sta) : S → Stmt → Bool
  | .asg p e, .Assign [tg] v _ => chkPt st p tg && chkE st e v && asgPair tg v
  | .own i l, .Assign [.Name x _] v _ => decide (st.N[i]? = some x) && locB st x && chkL st l v
  | .exp e, .Expr v _ => chkE st e v && notLC v
  | .appV i e, .Expr (.Call (.Attribute (.Name x _) a p) [v] [] c) _ => decide (Str.ofString "append" = a) && decide (st.N[i]? = some x) && visB st x && nodb x && (p.endLine == c.line) && chkE st e v
  | .app t e, .Expr (.Call (.Attribute o a p) [v] [] c) _ => decide (Str.ofString "append" = a) && (p.endLine == c.line) && chkE st t o && chkE st e v && notCall o
  | .setV i k e, .Assign [.Subscript (.Name x _) s _] v _ => decide (st.N[i]? = some x) && visB st x && nodb x && chkE st k s && chkE st e v && notLC v
  | .setI t k e, .Assign [.Subscript o s _] v _ => chkE st t o && chkE st k s && chkE st e v && notLC v
  | .ret e, .Return (some v) _ => chkE st e v
  | .retN, .Return none _ => true
  | .ife c a b, .If t p q _ => chkT st c t && chkSs st a p && chkSs st b q
  | .whl c b, .While t p [] _ => chkT st c t && chkSs st b p
  | .fr p it b, .For tg iter body [] _ => chkPt st p tg && chkI st it iter && itTg it tg && chkSs st b body
  | .aug i op e, .AugAssign (.Name x _) o v _ => decide (st.N[i]? = some x) && locB st x && decide (boAst op = o) && chkE st e v
  | .extV i e, .Expr (.Call (.Attribute (.Name x _) a p) [v] [] c) _ => decide (Str.ofString "extend" = a) && decide (st.N[i]? = some x) && visB st x && nodb x && (p.endLine == c.line) && chkE st e v
  | .popX i, .Expr (.Call (.Attribute (.Name x _) a p) [] [] c) _ => decide (Str.ofString "pop" = a) && decide (st.N[i]? = some x) && visB st x && nodb x && (p.endLine == c.line)
  | .popV t i, .Assign [tg] (.Call (.Attribute (.Name x _) a p) [] [] c) _ => decide (Str.ofString "pop" = a) && decide (st.N[i]? = some x) && visB st x && nodb x && (p.endLine == c.line) && chkPt st t tg
  | .brk, .Break _ => true
  | .cnt, .Continue _ => true
  | .pass, .Pass _ => true
  | .never, _ => true
  | _, _ => false
def chkSs (st : Sta) : Ss → List Stmt → Bool
  | .nil, [] => true
  | .cons (.frz _) r, as => chkSs st r as
  | .cons s r, a :: as => chkS st s a && chkSs st r as
  | _, _ => false
end
end PG


set_option Elab.async false
set_option maxRecDepth 100000
set_option linter.unusedVariables false
/-! PgC2: where the look says yes, the text does what the small text says. -/
namespace PG
open PySem L2

/-! ### what an expression of the text is not -/
def plainE : Expr → Bool
  | .Starred _ _ => false
  | .Slice _ _ _ _ => false
  | .Set _ _ _ => false
  | .SetComp _ _ _ _ => false
  | .DictComp _ _ _ _ _ => false
  | _ => true
def plainT : Expr → Bool
  | .UnaryOp .Not _ _ => false
  | .BoolOp _ _ _ => false
  | .IfExp _ _ _ _ => false
  | .Compare _ _ _ _ => false
  | _ => true
def notComp : Expr → Bool
  | .ListComp _ _ _ _ => false
  | .SetComp _ _ _ _ => false
  | .DictComp _ _ _ _ _ => false
  | _ => true
theorem star_eq {e : Expr} {es : List Expr} {env : Env} (h : plainE e = true) : starEach (e :: es) env = (false, eval e env) :: starEach es env := by
  cases e <;> first | rfl | cases h
theorem star_all {env : Env} {pos : Pos} : ∀ {es : List Expr}, es.all plainE = true → (backTo pos (starEach es env)).any (·.1) = false
  | [], _ => rfl
  | e :: es, h => by
    obtain ⟨h1, h2⟩ := Bool.and_eq_true_iff.mp (show (plainE e && es.all plainE) = true from h)
    rw [star_eq h1]
    show (false || (backTo pos (starEach es env)).any (·.1)) = false
    rw [star_all h2]; rfl
theorem true_eq {e : Expr} {env : Env} (h : plainT e = true) : ∀ whole, isTrue e env whole = (do let v ← whole; standAt e.pos; holding [v] (truthy v)) := by
  intro whole
  cases e <;> first | rfl | (cases h; done) | skip
  rename_i op x pos
  cases op <;> first | rfl | cases h
theorem mark_eq {e : Expr} {op : CmpOp} (h : plainE e = true) : behindInMarks op e = false := by
  cases e <;> first | rfl | cases h
theorem ix_eq {e : Expr} (h : plainE e = true) : PlainIx e := by
  intro o i
  cases e <;> first | rfl | cases h
theorem fold_eq {e : Expr} {env : Env} (h : plainE e = true) : ∀ x, foldedSetIterable e env x = pure x := by
  intro x
  cases e <;> first | rfl | cases h
theorem swap_eq {e : Expr} {t : Option Expr} {l : Nat} {env : Env} (h : notComp e = true) : swapsWith e t l env = pure false := by
  cases e <;> first | rfl | cases h
theorem base_eq {e : Expr} {a : Str} {env : Env} (h : (match e with
    | .Call _ _ _ _ => false
    | _ => true) = true) : attributeBase e a env (eval e env) = eval e env := by
  cases e <;> first | rfl | cases h
theorem base0_eq {e : Expr} {a : Str} {env : Env} (h : notCall0 e = true) : attributeBase e a env (eval e env) = eval e env := by
  cases e <;> first | rfl | skip
  rename_i f xs ks p
  cases f <;> first | rfl | skip
  cases xs <;> first | rfl | skip
  cases ks <;> first | rfl | cases h
theorem asg_eq {t k : Expr} {p : Pos} {env : Env} (h : plainE k = true) : ∀ v, assign (.Subscript t k p) env v = (do
      let ov ← holding [v] (eval t env)
      let iv ← holding [v, ov] (eval k env)
      standAt p
      holding [v, ov, iv] (setItem ov iv v)
      release [v, ov, iv] []) := by
  intro v
  cases k <;> first | rfl | cases h
theorem stores_none {tg v : Expr} {env : Env} (h : (match tg, v with
    | .Tuple _ _ _, .Tuple _ _ _ => false
    | .List _ _, .List _ _ => false
    | .List _ _, .Tuple _ _ _ => false
    | _, _ => true) = true) : swappedStores [tg] v env = pure none := by
  cases tg <;> first | rfl | skip
  all_goals (cases v <;> first | rfl | cases h)

theorem chkE_plain {st : Sta} : ∀ {i : E} {e : Expr}, chkE st i e = true → plainE e = true := by
  intro i e h
  cases e <;> first | rfl | skip
  all_goals (cases i <;> first | (cases h; done) | skip)
  all_goals (rename_i l; cases l <;> cases h)
theorem chkL_list {st : Sta} : ∀ {i : L} {e : Expr}, chkL st i e = true → plainE e = true := by
  intro i e h
  cases e <;> first | rfl | skip
  all_goals (cases i <;> cases h)
theorem chkEs_plain {st : Sta} : ∀ {i : Es} {es : List Expr}, chkEs st i es = true → es.all plainE = true
  | .nil, [], _ => rfl
  | .nil, _ :: _, h => by cases h
  | .cons _ _, [], h => by cases h
  | .cons a r, e :: es, h => by
    obtain ⟨h1, h2⟩ := Bool.and_eq_true_iff.mp (show (chkE st a e && chkEs st r es) = true from h)
    rw [List.all_cons, chkE_plain h1, chkEs_plain h2]; rfl
theorem chkI_plain {st : Sta} : ∀ {i : Iv} {e : Expr}, chkI st i e = true → plainE e = true := by
  intro i e h
  cases i with
  | val a => exact chkE_plain (by cases e <;> exact h)
  | rg1 a => cases e <;> first | rfl | cases h
  | rg2 a b => cases e <;> first | rfl | cases h
  | rv1 a => cases e <;> first | rfl | cases h
  | rv2 a b => cases e <;> first | rfl | cases h
  | enu a => cases e <;> first | rfl | cases h
theorem ptOwn_slots (st : Sta) (p : Pt) : (ptOwn st p).map (·.2) = ptSlots p := by
  unfold ptOwn
  rw [List.map_map]
  exact List.map_id _
end PG


set_option Elab.async false
set_option maxRecDepth 100000
set_option linter.unusedVariables false
/-! PgC3: the look is sound: expressions. -/
namespace PG
open PySem L2

section
variable {ca : CA} {cf : Cf}
theorem FnAt.blk {X : Cx} {cg : List PV → Hm → Rs PV} {f : String} {n : Nat} (F : FnAt X ca cg f n) (s : Shared) (H : Hp) (scope : Scope) (cenv : Env) (fp : List Addr) : FnAt (X.blk s H scope cenv fp) ca cg f n := ⟨F.ex, F.nd⟩
theorem relabel_names {scope : Scope} {env : Env} : ∀ {names : List (Str × NameKind)} {x : Str} {k : NameKind}, names.lookup x = some k →
    ∃ k', (names.map fun (n, k) => if (k == NameKind.free && env.scope.kind == .function && env.kindOf n == some .cell) then (n, NameKind.cell) else (n, k)).lookup x = some k' ∧ (k ≠ .free → k' = k) ∧ (k = .free → k' = .free ∨ k' = .cell)
  | [], x, k, h => by simp at h
  | (n, k₀) :: r, x, k, h => by
    rw [List.lookup_cons] at h
    cases hb : x == n with
    | true =>
      rw [hb] at h
      have e : k₀ = k := Option.some.inj h
      subst e
      simp only [List.map_cons]
      split
      · rename_i hc
        refine ⟨.cell, by rw [List.lookup_cons, hb], fun q => ?_, fun _ => .inr rfl⟩
        simp only [Bool.and_eq_true, beq_iff_eq] at hc
        exact absurd hc.1.1 q
      · refine ⟨k₀, by rw [List.lookup_cons, hb], fun _ => rfl, fun q => .inl q⟩
    | false =>
      rw [hb] at h
      obtain ⟨k', e, q⟩ := relabel_names (scope := scope) (env := env) (names := r) h
      refine ⟨k', ?_, q⟩
      simp only [List.map_cons]
      split <;> (rw [List.lookup_cons, hb]; exact e)
theorem GX.blk {st : Sta} {X : Cx} (G : GX ca cf st X) {scope : Scope} (hk : scope.kind = .function) (s : Shared) (H : Hp) (C : Addr) (cl : List (Str × Addr)) (fp : List Addr) : GX ca cf (st.blk scope) (X.blk s H scope (compEnvC scope cl C X.env) fp) where
  hN := G.hN
  nd := G.nd
  loc := fun x h => by
    obtain ⟨k', e, q, _⟩ := relabel_names (scope := scope) (env := X.env) (names := scope.names) h
    rw [q (by decide)] at e; exact e
  cel := fun x h => by
    obtain ⟨k', e, q, _⟩ := relabel_names (scope := scope) (env := X.env) (names := scope.names) h
    rw [q (by decide)] at e
    refine ⟨e, ?_⟩
    show (scope.names.lookup x == some .cell) = true
    have h : scope.names.lookup x = some .cell := h
    rw [h]; rfl
  fre := fun x h => by
    obtain ⟨k', e, _, q⟩ := relabel_names (scope := scope) (env := X.env) (names := scope.names) h
    rcases q rfl with z | z
    · rw [z] at e; exact .inl e
    · rw [z] at e; exact .inr e
  glo := fun x h => by
    obtain ⟨k', e, q, _⟩ := relabel_names (scope := scope) (env := X.env) (names := scope.names) h
    rw [q (by decide)] at e; exact e
  kind := hk
  calm := G.calm
  free := G.free
  consts := G.consts
  fns := fun f n h => (G.fns f n h).blk s H scope _ fp

theorem blkOk_of {st : Sta} {X : Cx} (G : GX ca cf st X) {scope : Scope} {own : List (Str × Nat)} (h : blkC st.N (scOf st) scope own = true) : BlkOk X.N X.env.scope scope own := by
  have b := blkOk_by h
  refine ⟨b.kind, b.uniq, by rw [G.hN]; exact b.ix, fun y hy e => ?_, by rw [G.hN]; exact b.own⟩
  rcases b.free y hy e with q | q
  · exact .inl (G.cel _ q).1
  · exact (G.fre _ q).symm

theorem pgs_names {st : Sta} {X : Cx} (G : GX ca cf st X) : ∀ {is : List Nat} {es : List Expr}, namesOf st is es = true → PGs X es (gPt.gTps is) ∧ (assignEach es X.env).length = is.length ∧ (assignEach es X.env).findIdx? (·.1) = none
  | [], [], _ => ⟨pgs_nil, rfl, rfl⟩
  | [], _ :: _, h => by cases h
  | _ :: _, [], h => by cases h
  | i :: is, e :: es, h => by
    cases e <;> first | (cases h; done) | skip
    rename_i x pos
    have h : (decide (st.N[i]? = some x) && locB st x && namesOf st is es) = true := h
    simp only [Bool.and_eq_true, decide_eq_true_eq] at h
    obtain ⟨⟨h1, h2⟩, h3⟩ := h
    obtain ⟨p1, p2, p3⟩ := pgs_names G h3
    obtain ⟨l1, l2⟩ := G.loca h2
    refine ⟨pgs_cons (pg_name G.nd (by rw [G.hN]; exact h1) l1 l2) p1 rfl, ?_, ?_⟩
    · show ((assignEach es X.env).length + 1) = is.length + 1
      rw [p2]
    · have e : assignEach (.Name x pos :: es) X.env = (false, assign (.Name x pos) X.env) :: assignEach es X.env := rfl
      rw [e, List.findIdx?_cons, p3]
      rfl
theorem pg_of {st : Sta} {X : Cx} (G : GX ca cf st X) {p : Pt} {tg : Expr} (h : chkPt st p tg = true) : PG X tg (gPt X.K p) := by
  cases p with
  | nm i =>
    cases tg <;> first | (cases h; done) | skip
    rename_i x pos
    have h : (decide (st.N[i]? = some x) && locB st x) = true := h
    simp only [Bool.and_eq_true, decide_eq_true_eq] at h
    obtain ⟨l1, l2⟩ := G.loca h.2
    exact pg_name G.nd (by rw [G.hN]; exact h.1) l1 l2
  | tp is =>
    cases tg <;> first | (cases h; done) | skip
    rename_i es k pos
    obtain ⟨p1, p2, p3⟩ := pgs_names G (show namesOf st is es = true from h)
    exact pg_tup G.calm p1 p2 p3

theorem opf_bin {X : Cx} (op : Bo) : OpF X ca (binaryOp (boAst op)) fun h u v => bOp h op u v := by
  cases op
  · exact opf_add
  · exact opf_sub
  · exact opf_mul
  · exact opf_fdiv
  · exact opf_mod
  · exact opf_pow
theorem opf_none {X : Cx} {f : Value → Value → Sem Value} {o : Hm → PV → PV → Option PV} (h : ∀ a b c, o a b c = none) : OpF X ca f o := by
  intro W σ0 pins s σ H x y vv uu Q I rx ry ⟨g, h', u, v, sr, r1, r2, f⟩
  rw [h] at f
  exact f.elim
theorem opf_cmp {X : Cx} (op : Co) : OpF X ca (compareOp (coAst op)) fun h u v => (cOp h op u v).map .bl := by
  cases op
  · exact opf_eq
  · exact opf_ne
  · exact opf_lt
  · exact opf_le
  · exact opf_gt
  · exact opf_ge
  · exact opf_is
  · exact opf_isnot
  · exact opf_in
  · exact opf_notin
theorem nodb_of {x : Str} (h : nodb x = true) : (x == ("__debug__" : Str)) = false ∧ (x == ("__classdict__" : Str)) = false := by
  obtain ⟨h1, h2⟩ := Bool.and_eq_true_iff.mp (show (!(x == ("__debug__" : Str)) && !(x == ("__classdict__" : Str))) = true from h)
  exact ⟨by simpa using h1, by simpa using h2⟩
theorem boot_all : ∀ n ∈ tyKnown, bootBuiltins (Str.ofString n) = some (.type n) := by
  have : (tyKnown.all fun n => decide (bootBuiltins (Str.ofString n) = some (.type n))) = true := by decide +kernel
  exact fun n hn => of_decide_eq_true (List.all_eq_true.mp this n hn)
theorem ty_names : ∀ n ∈ tyKnown, Str.ofString n ≠ "__name__" ∧ (Str.ofString n == ("__debug__" : Str)) = false := by
  have : (tyKnown.all fun n => !decide (Str.ofString n = "__name__") && !(Str.ofString n == ("__debug__" : Str))) = true := by decide +kernel
  intro n hn
  have h := List.all_eq_true.mp this n hn
  obtain ⟨h1, h2⟩ := Bool.and_eq_true_iff.mp h
  exact ⟨by simpa using h1, by simpa using h2⟩
theorem cst_of {X : Cx} {c : PV} {k : Const} {j : Nat} {pos : Pos} (h : cstB c k = true) : JE ca X (.Constant k j pos) fun _ h => okR c h := by
  cases c <;> first | (cases h; done) | skip
  · cases k <;> first | (cases h; done) | skip
    exact je_const pe_non fun _ _ => rfl
  · cases k <;> first | (cases h; done) | skip
    rw [eq_of_beq (show (_ == _) = true from h)]
    exact je_const pe_bl fun _ _ => rfl
  · cases k <;> first | (cases h; done) | skip
    rw [eq_of_beq (show (_ == _) = true from h)]
    exact je_const pe_int fun _ _ => rfl
  · cases k <;> first | (cases h; done) | skip
    rename_i s t
    have h : (decide (s = t) && decide (s.length ≤ sizeLine)) = true := h
    simp only [Bool.and_eq_true, decide_eq_true_eq] at h
    obtain ⟨rfl, h2⟩ := h
    exact je_const pe_str fun _ _ => ⟨rfl, h2⟩
/-- the built-ins, each by its rule -/
theorem je_bl {st : Sta} {X : Cx} (G : GX ca cf st X) {b : Bl} {x : Str} {e : Expr} {es : List Expr} {p pos : Pos} {m : En → Hm → Rs (List PV)} (h1 : Str.ofString (blAst b).1 = x) (h2 : isGlo st x = true) (h3 : (blAst b).1 ∈ st.free) (ja : JA ca X (e :: es) m)
    (hp : (e :: es).all plainE = true) : JE ca X (.Call (.Name x p) (e :: es) [] pos) fun env h => bindR (m env h) fun vs h1 => liftR (cBl h1 b vs) h1 := by
  subst h1
  have hg := G.glo _ (of_decide_eq_true h2)
  have hf := G.free _ h3
  obtain ⟨q1, q2⟩ := Bool.and_eq_true_iff.mp (show (plainE e && es.all plainE) = true from hp)
  have s1 := star_eq (es := es) (env := X.env) q1
  have s2 := star_all (env := X.env) (pos := pos) q2
  cases b with
  | len => exact je_blt (fv := blLen) (fun W σ => bl_len W σ) hg hf PySem.boot_len (by decide +kernel) (by decide +kernel) ja s1 s2
  | int1 => exact je_bltT (fv := blInt) (fun W σ => bl_int W σ) hg hf (by decide +kernel) (by decide +kernel) (by decide +kernel) ja s1 s2
  | min2 => exact je_blt (fv := blMin2) (fun W σ => bl_min2 G.calm W σ) hg hf (by decide +kernel) (by decide +kernel) (by decide +kernel) ja s1 s2
  | max2 => exact je_blt (fv := blMax2) (fun W σ => bl_max2 G.calm W σ) hg hf (by decide +kernel) (by decide +kernel) (by decide +kernel) ja s1 s2
  | min3 => exact je_blt (fv := blMin3) (fun W σ => bl_min3 G.calm W σ) hg hf (by decide +kernel) (by decide +kernel) (by decide +kernel) ja s1 s2
  | tup1 => exact je_bltT (fv := blTup) (fun W σ => bl_tup W σ) hg hf (by decide +kernel) (by decide +kernel) (by decide +kernel) ja s1 s2
  | all1 => exact je_blt (fv := blAll) (fun W σ => bl_all G.calm W σ) hg hf (by decide +kernel) (by decide +kernel) (by decide +kernel) ja s1 s2
  | any1 => exact je_blt (fv := blAny) (fun W σ => bl_any G.calm W σ) hg hf (by decide +kernel) (by decide +kernel) (by decide +kernel) ja s1 s2
  | sum1 => exact je_blt (fv := blSum) (fun W σ => bl_sum G.calm W σ) hg hf (by decide +kernel) (by decide +kernel) (by decide +kernel) ja s1 s2
  | ord1 => exact je_blt (fv := blOrd) (fun W σ => bl_ord W σ) hg hf (by decide +kernel) (by decide +kernel) (by decide +kernel) ja s1 s2
  | isi => exact je_blt (fv := blIsi) (fun W σ => bl_isi W σ) hg hf (by decide +kernel) (by decide +kernel) (by decide +kernel) ja s1 s2
  | min1 => exact je_blt (fv := blMin1) (fun W σ => bl_min1 G.calm W σ) hg hf (by decide +kernel) (by decide +kernel) (by decide +kernel) ja s1 s2
  | max1 => exact je_blt (fv := blMax1) (fun W σ => bl_max1 G.calm W σ) hg hf (by decide +kernel) (by decide +kernel) (by decide +kernel) ja s1 s2
  | srt1 => exact je_blt (fv := blSrt) (fun W σ => bl_srt W σ) hg hf (by decide +kernel) (by decide +kernel) (by decide +kernel) ja s1 s2
/-- few arguments, none of them starred -/
theorem few_of {es : List Expr} {env : Env} {pos : Pos} (h : es.all plainE = true) (hl : es.length < 5) : ((backTo pos (starEach es env)).all (fun x => !x.1) && (backToKw pos (keywordEach [] env)).all (fun x => x.1.isSome) && decide (es.length + ([] : List Keyword).length + (if ([] : List Keyword).isEmpty then 0 else 1) < 30)) = true := by
  have a1 : (backTo pos (starEach es env)).all (fun x => !x.1) = true := by
    have := star_all (env := env) (pos := pos) h
    rw [List.all_eq_true]
    intro x hx
    cases hb : x.1 with
    | false => rfl
    | true => exact absurd (List.any_eq_true.mpr ⟨x, hx, hb⟩) (by rw [this]; simp)
  rw [a1]
  simp only [Bool.true_and, Bool.and_eq_true]
  refine ⟨rfl, decide_eq_true ?_⟩
  show es.length + 0 + 0 < 30
  omega
end
end PG

set_option Elab.async false
set_option maxRecDepth 100000
set_option linter.unusedVariables false
/-! PgC4: the look is sound: expressions, all of them. -/
namespace PG
open PySem L2

set_option maxHeartbeats 4000000
section
variable {ca : CA} {cf : Cf}
theorem and2 {a b : Bool} (h : (a && b) = true) : a = true ∧ b = true := Bool.and_eq_true_iff.mp h
theorem jb_and {X : Cx} {e : Expr} {m : En → Hm → Rs PV} (k : Bool) {mr : En → Hm → Rs PV} {b : Expr} {rest : List Expr} {pos : Pos} (je : JE ca X e m) (jr : JE ca X (.BoolOp (if k then .And else .Or) (b :: rest) pos) mr) :
    JE ca X (.BoolOp (if k then .And else .Or) (e :: b :: rest) pos) fun env h => bindR (m env h) fun v h1 => match v with
    | .bl c => if c = k then mr env h1 else okR (.bl c) h1
    | _ => none := by
  cases k with
  | true => exact je_and je jr
  | false => exact je_or je jr
theorem jw_bop {X : Cx} {e : Expr} {m : En → Hm → Rs Bool} (k : Bool) {mr : En → Hm → Rs Bool} {b : Expr} {rest : List Expr} {pos : Pos} (je : JT ca X e m) (jr : JW ca X (.BoolOp (if k then .And else .Or) (b :: rest) pos) mr) :
    JW ca X (.BoolOp (if k then .And else .Or) (e :: b :: rest) pos) fun env h => bindR (m env h) fun c h1 => if c = k then mr env h1 else okR c h1 := by
  cases k with
  | true => exact jw_and je jr
  | false => exact jw_or je jr
theorem jt_plain {X : Cx} {i : E} {st : Sta} {e : Expr} (je : JE ca X e (evE cf i)) (h : plainT e = true) : JT ca X e (evT cf (.tru i)) := jt_tru je (true_eq h)

theorem takes0 {X : Cx} : Takes X W0 := fun _ _ ⟨_, _, _, _, _, _, _, _, _, _, _, _, _, _, _, _, w⟩ => w.elim
mutual
theorem soundE : ∀ (i : E) {st : Sta} {X : Cx} {e : Expr}, GX ca cf st X → chkE st i e = true → JE ca X e (evE cf i)
  | .var i, st, X, e, G, h => by
    cases e <;> first | (cases h; done) | skip
    rename_i x pos
    obtain ⟨h, h3⟩ := and2 (show (decide (st.N[i]? = some x) && visB st x && nodb x) = true from h)
    obtain ⟨h1, h2⟩ := and2 h
    obtain ⟨d1, d2⟩ := nodb_of h3
    exact je_var G (of_decide_eq_true h1) h2 d1 d2
  | .cst c, st, X, e, G, h => by
    cases e <;> first | (cases h; done) | skip
    exact cst_of h
  | .glb x c, st, X, e, G, h => by
    cases e <;> first | (cases h; done) | skip
    rename_i y pos
    have h : (decide (Str.ofString x = y) && isGlo st y && nodb y && (match st.consts.lookup x with
    | some d => PV.eqc d c
    | none => false)) = true := h
    obtain ⟨h, h4⟩ := and2 h
    obtain ⟨h, h3⟩ := and2 h
    obtain ⟨h1, h2⟩ := and2 h
    have e1 := of_decide_eq_true h1
    subst e1
    split at h4
    · rename_i d hd
      have := PV.eqc_eq h4
      subst this
      exact je_glb G (of_decide_eq_true h2) hd (nodb_of h3).1
    · cases h4
  | .tup es, st, X, e, G, h => by
    cases e <;> first | (cases h; done) | skip
    exact je_tup (soundEs es G h)
  | .lst l, st, X, e, G, h => by
    have h : chkL st l e = true := by cases e <;> exact h
    exact je_lst (soundL l G h)
  | .rf l, st, X, e, G, h => by
    have h : chkL st l e = true := by cases e <;> exact h
    exact je_rf (soundL l G h)
  | .bin op a b, st, X, e, G, h => by
    cases e <;> first | (cases h; done) | skip
    rename_i l o r pos
    obtain ⟨h, h3⟩ := and2 (show (decide (boAst op = o) && chkE st a l && chkE st b r) = true from h)
    obtain ⟨h1, h2⟩ := and2 h
    have e1 := of_decide_eq_true h1
    subst e1
    exact je_bin (opf_bin op) (soundE a G h2) (soundE b G h3)
  | .neg a, st, X, e, G, h => by
    cases e <;> first | (cases h; done) | skip
    rename_i o x pos
    cases o <;> first | (cases h; done) | skip
    exact je_neg (soundE a G h)
  | .cmp op a b, st, X, e, G, h => by
    cases e <;> first | (cases h; done) | skip
    rename_i l os rs pos
    match os, rs, h with
    | [o], [r], h =>
      obtain ⟨h, h3⟩ := and2 (show (decide (coAst op = o) && chkE st a l && chkE st b r) = true from h)
      obtain ⟨h1, h2⟩ := and2 h
      have e1 := of_decide_eq_true h1
      subst e1
      exact je_cmp (opf_cmp op) (soundE a G h2) (soundE b G h3) (mark_eq (chkE_plain h3))
    | [], _, h => cases h
    | [_], [], h => cases h
    | [_], _ :: _ :: _, h => cases h
    | _ :: _ :: _, _, h => cases h
  | .chn op1 op2 a b c, st, X, e, G, h => by
    cases e <;> first | (cases h; done) | skip
    rename_i l os rs pos
    match os, rs, h with
    | [o1, o2], [r, q], h =>
      obtain ⟨h, h5⟩ := and2 (show (decide (coAst op1 = o1) && decide (coAst op2 = o2) && chkE st a l && chkE st b r && chkE st c q) = true from h)
      obtain ⟨h, h4⟩ := and2 h
      obtain ⟨h, h3⟩ := and2 h
      obtain ⟨h1, h2⟩ := and2 h
      have e1 := of_decide_eq_true h1
      have e2 := of_decide_eq_true h2
      subst e1 e2
      exact je_chn (opf_cmp op1) (opf_cmp op2) (soundE a G h3) (soundE b G h4) (soundE c G h5) (mark_eq (chkE_plain h5))
    | [], _, h => cases h
    | [_], _, h => cases h
    | [_, _], [], h => cases h
    | [_, _], [_], h => cases h
    | [_, _], _ :: _ :: _ :: _, h => cases h
    | _ :: _ :: _ :: _, _, h => cases h
  | .not t, st, X, e, G, h => by
    cases e <;> first | (cases h; done) | skip
    rename_i o x pos
    cases o <;> first | (cases h; done) | skip
    exact soundV t G h
  | .bop k es, st, X, e, G, h => by
    cases e <;> first | (cases h; done) | skip
    rename_i o xs pos
    obtain ⟨h1, h2⟩ := and2 (show (decide ((if k then BoolOp.And else BoolOp.Or) = o) && chkEs st es xs) = true from h)
    have e1 := of_decide_eq_true h1
    subst e1
    exact soundB es k pos G h2
  | .ife c a b, st, X, e, G, h => by
    cases e <;> first | (cases h; done) | skip
    rename_i t x y pos
    obtain ⟨h, h3⟩ := and2 (show (chkT st c t && chkE st a x && chkE st b y) = true from h)
    obtain ⟨h1, h2⟩ := and2 h
    exact je_ife (soundT c G h1) (soundE a G h2) (soundE b G h3)
  | .idx a i, st, X, e, G, h => by
    cases e <;> first | (cases h; done) | skip
    rename_i x s pos
    obtain ⟨h1, h2⟩ := and2 (show (chkE st a x && chkE st i s) = true from h)
    exact je_idx (soundE a G h1) (soundE i G h2) (ix_eq (chkE_plain h2))
  | .slc a lo hi, st, X, e, G, h => by
    cases e <;> first | (cases h; done) | skip
    rename_i x s pos
    cases s <;> first | (cases h; done) | skip
    rename_i l u stp p2
    cases stp <;> first | (cases h; done) | skip
    obtain ⟨h, h3⟩ := and2 (show (chkE st a x && chkO st lo l && chkO st hi u) = true from h)
    obtain ⟨h1, h2⟩ := and2 h
    exact je_slc (soundE a G h1) (soundO lo G h2) (soundO hi G h3)
  | .call f es, st, X, e, G, h => by
    cases e <;> first | (cases h; done) | skip
    rename_i fe xs ks pos
    cases fe <;> first | (cases h; done) | skip
    rename_i g p
    cases ks <;> first | (cases h; done) | skip
    obtain ⟨h, h4⟩ := and2 (show (decide (Str.ofString f = g) && isGlo st g && st.fns.any (fun q => q.1 == f) && chkEs st es xs) = true from h)
    obtain ⟨h, h3⟩ := and2 h
    obtain ⟨h1, h2⟩ := and2 h
    have e1 := of_decide_eq_true h1
    subst e1
    obtain ⟨q, hq, e2⟩ := List.any_eq_true.mp h3
    have e2 := eq_of_beq e2
    subst e2
    have F := G.fns q.1 q.2 hq
    have ja := soundEs es G h4
    have hp := chkEs_plain h4
    cases xs with
    | nil =>
      cases es <;> first | (cases h4; done) | skip
      exact je_call0 F (G.glo _ (of_decide_eq_true h2))
    | cons x xs =>
      obtain ⟨q1, q2⟩ := and2 (show (plainE x && xs.all plainE) = true from hp)
      exact je_call F (G.glo _ (of_decide_eq_true h2)) ja (star_eq q1) (star_all q2)
  | .blt b es, st, X, e, G, h => by
    cases e <;> first | (cases h; done) | skip
    rename_i fe xs ks pos
    cases fe <;> first | (cases h; done) | skip
    rename_i g p
    cases ks <;> first | (cases h; done) | skip
    obtain ⟨h, h5⟩ := and2 (show (decide (Str.ofString (blAst b).1 = g) && isGlo st g && st.free.contains (blAst b).1 && decide (xs.length = (blAst b).2) && chkEs st es xs) = true from h)
    obtain ⟨h, h4⟩ := and2 h
    obtain ⟨h, h3⟩ := and2 h
    obtain ⟨h1, h2⟩ := and2 h
    have ja := soundEs es G h5
    have hp := chkEs_plain h5
    cases xs with
    | nil =>
      exfalso
      have := of_decide_eq_true h4
      cases b <;> cases this
    | cons x xs => exact je_bl G (of_decide_eq_true h1) h2 (List.contains_iff_mem.mp h3) ja hp
  | .bty n, st, X, e, G, h => by
    cases e <;> first | (cases h; done) | skip
    rename_i x pos
    obtain ⟨h, h4⟩ := and2 (show (decide (Str.ofString n = x) && isGlo st x && st.free.contains n && tyKnown.contains n) = true from h)
    obtain ⟨h, h3⟩ := and2 h
    obtain ⟨h1, h2⟩ := and2 h
    have e1 := of_decide_eq_true h1
    subst e1
    have hn := List.contains_iff_mem.mp h4
    exact je_bty G (of_decide_eq_true h2) (List.contains_iff_mem.mp h3) (boot_all n hn) (ty_names n hn).1 (ty_names n hn).2
  | .ms m o es, st, X, e, G, h => by
    cases e <;> first | (cases h; done) | skip
    rename_i fe xs ks c
    cases fe <;> first | (cases h; done) | skip
    rename_i x a p
    cases ks <;> first | (cases h; done) | skip
    obtain ⟨h, h6⟩ := and2 (show (decide (Str.ofString (msNm m) = a) && (p.endLine == c.line) && notCall0 x && decide (xs.length < 5) && chkE st o x && chkEs st es xs) = true from h)
    obtain ⟨h, h5⟩ := and2 h
    obtain ⟨h, h4⟩ := and2 h
    obtain ⟨h, h3⟩ := and2 h
    obtain ⟨h1, h2⟩ := and2 h
    have e1 := of_decide_eq_true h1
    subst e1
    have hp := chkEs_plain h6
    cases xs with
    | nil =>
      cases es <;> first | (cases h6; done) | skip
      exact je_ms0 (soundE o G h5) (base0_eq h3) h2
    | cons y ys =>
      obtain ⟨q1, q2⟩ := and2 (show (plainE y && ys.all plainE) = true from hp)
      exact je_ms (soundE o G h5) (soundEs es G h6) (base0_eq h3) (few_of hp (of_decide_eq_true h4)) h2 (star_eq q1) (star_all q2)
theorem soundEs : ∀ (i : Es) {st : Sta} {X : Cx} {e : List Expr}, GX ca cf st X → chkEs st i e = true → JA ca X e (evEs cf i)
  | .nil, st, X, e, G, h => by
    cases e <;> first | (cases h; done) | skip
    exact ja_nil
  | .cons a r, st, X, e, G, h => by
    cases e with
    | nil => cases h
    | cons x xs =>
      obtain ⟨h1, h2⟩ := and2 (show (chkE st a x && chkEs st r xs) = true from h)
      exact ja_cons (soundE a G h1) (soundEs r G h2) (star_eq (chkE_plain h1))
theorem soundO : ∀ (i : Oe) {st : Sta} {X : Cx} {e : Option Expr}, GX ca cf st X → chkO st i e = true → JO ca X e (evO cf i)
  | .no, st, X, e, G, h => by
    cases e <;> first | (cases h; done) | skip
    intro W tk
    refine PO_imp po_none fun σ H Q ⟨g, oa, env, h, er, sr, f⟩ => ?_
    exact f.here sr
  | .so a, st, X, e, G, h => by
    cases e with
    | none => cases h
    | some x =>
      intro W tk
      refine PO_imp (po_some (soundE a G (show chkE st a x = true from h) W tk)) fun σ H Q ⟨g, oa, env, h, er, sr, f⟩ => ?_
      refine PG.step (m := evE cf a) er sr f fun y H1 g1 h1 u e1 sr1 v1 f1 => ?_
      cases u <;> first | exact f1.elim | skip
      cases v1
      exact ⟨_, rfl, f1.here sr1⟩
theorem soundV : ∀ (i : T) {st : Sta} {X : Cx} {e : Expr} {pos : Pos}, GX ca cf st X → chkV st i e = true → JE ca X (.UnaryOp .Not e pos) (evE cf (.not i))
  | .tru a, st, X, e, pos, G, h => je_not (soundE a G h)
  | .not _, st, X, e, pos, G, h => by cases h
  | .bop _ _, st, X, e, pos, G, h => by cases h
theorem soundT : ∀ (i : T) {st : Sta} {X : Cx} {e : Expr}, GX ca cf st X → chkT st i e = true → JT ca X e (evT cf i)
  | .tru a, st, X, e, G, h => by
    obtain ⟨h1, h2⟩ := and2 (show (chkE st a e && notBool a) = true by cases e <;> exact h)
    have je := soundE a G h1
    by_cases hp : plainT e = true
    · exact jt_plain (st := st) je hp
    · cases a with
      | cmp op a b =>
        cases e <;> first | (cases h1; done) | skip
        rename_i l os rs pos
        match os, rs, h1 with
        | [o], [r], h1 =>
          obtain ⟨h1, h5⟩ := and2 (show (decide (coAst op = o) && chkE st a l && chkE st b r) = true from h1)
          obtain ⟨h3, h4⟩ := and2 h1
          have e1 := of_decide_eq_true h3
          subst e1
          exact jt_cmp (opf_cmp op) (soundE a G h4) (soundE b G h5) (mark_eq (chkE_plain h5))
        | [], _, h1 => cases h1
        | [_], [], h1 => cases h1
        | [_], _ :: _ :: _, h1 => cases h1
        | _ :: _ :: _, _, h1 => cases h1
      | chn op1 op2 a b c =>
        cases e <;> first | (cases h1; done) | skip
        rename_i l os rs pos
        match os, rs, h1 with
        | [o1, o2], [r, q], h1 =>
          obtain ⟨h1, h7⟩ := and2 (show (decide (coAst op1 = o1) && decide (coAst op2 = o2) && chkE st a l && chkE st b r && chkE st c q) = true from h1)
          obtain ⟨h1, h6⟩ := and2 h1
          obtain ⟨h1, h5⟩ := and2 h1
          obtain ⟨h3, h4⟩ := and2 h1
          have e1 := of_decide_eq_true h3
          have e2 := of_decide_eq_true h4
          subst e1 e2
          exact jt_chn (opf_cmp op1) (opf_cmp op2) (soundE a G h5) (soundE b G h6) (soundE c G h7) (mark_eq (chkE_plain h7))
        | [], _, h1 => cases h1
        | [_], _, h1 => cases h1
        | [_, _], [], h1 => cases h1
        | [_, _], [_], h1 => cases h1
        | [_, _], _ :: _ :: _ :: _, h1 => cases h1
        | _ :: _ :: _ :: _, _, h1 => cases h1
      | not _ => cases h2
      | bop _ _ => cases h2
      | ife _ _ _ => cases h2
      | lst l => exact absurd (show plainT e = true by cases e <;> first | rfl | (cases l <;> cases h1)) hp
      | rf l => exact absurd (show plainT e = true by cases e <;> first | rfl | (cases l <;> cases h1)) hp
      | neg a => exact absurd (show plainT e = true by
          cases e <;> first | rfl | (cases h1; done) | skip
          rename_i o x pos
          cases o <;> first | rfl | cases h1) hp
      | _ => exact absurd (show plainT e = true by cases e <;> first | rfl | cases h1) hp
  | .not a, st, X, e, G, h => by
    cases e <;> first | (cases h; done) | skip
    rename_i o x pos
    cases o <;> first | (cases h; done) | skip
    exact jt_not (soundT a G h)
  | .bop k ts, st, X, e, G, h => by
    cases e <;> first | (cases h; done) | skip
    rename_i o xs pos
    obtain ⟨h1, h2⟩ := and2 (show (decide ((if k then BoolOp.And else BoolOp.Or) = o) && chkTs st ts xs) = true from h)
    have e1 := of_decide_eq_true h1
    subst e1
    exact fun W tk => (soundTs ts k pos G h2 W tk).pt
theorem soundTs : ∀ (i : Ts) (k : Bool) (pos : Pos) {st : Sta} {X : Cx} {e : List Expr}, GX ca cf st X → chkTs st i e = true → JW ca X (.BoolOp (if k then .And else .Or) e pos) (evTB cf k i)
  | .nil, k, pos, st, X, e, G, h => fun W tk => PW_imp ⟨fun wh pins s σ H Q I hw => (hw : False).elim⟩ fun σ H Q ⟨g, oa, env, h, er, sr, f⟩ => f.elim
  | .cons t .nil, k, pos, st, X, e, G, h => by
    match e, h with
    | [x], h =>
      obtain ⟨h1, _⟩ := and2 (show (chkT st t x && true) = true from h)
      exact jw_one (soundT t G h1)
    | [], h => cases h
    | _ :: _ :: _, h => cases (and2 (show (chkT st t _ && false) = true from h)).2
  | .cons t (.cons t2 r), k, pos, st, X, e, G, h => by
    match e, h with
    | [], h => cases h
    | [x], h => cases (and2 (show (chkT st t x && false) = true from h)).2
    | x :: y :: xs, h =>
      obtain ⟨h1, h2⟩ := and2 (show (chkT st t x && chkTs st (.cons t2 r) (y :: xs)) = true from h)
      exact jw_bop k (soundT t G h1) (soundTs (.cons t2 r) k pos G h2)
theorem soundB : ∀ (i : Es) (k : Bool) (pos : Pos) {st : Sta} {X : Cx} {e : List Expr}, GX ca cf st X → chkEs st i e = true → JE ca X (.BoolOp (if k then .And else .Or) e pos) (evB cf k i)
  | .nil, k, pos, st, X, e, G, h => fun W tk => PE_imp ⟨fun pins s σ H Q I hw => (hw : False).elim⟩ fun σ H Q ⟨g, oa, env, h, er, sr, f⟩ => f.elim
  | .cons t .nil, k, pos, st, X, e, G, h => by
    match e, h with
    | [x], h =>
      obtain ⟨h1, _⟩ := and2 (show (chkE st t x && true) = true from h)
      exact je_one (soundE t G h1)
    | [], h => cases h
    | _ :: _ :: _, h => cases (and2 (show (chkE st t _ && false) = true from h)).2
  | .cons t (.cons t2 r), k, pos, st, X, e, G, h => by
    match e, h with
    | [], h => cases h
    | [x], h => cases (and2 (show (chkE st t x && false) = true from h)).2
    | x :: y :: xs, h =>
      obtain ⟨h1, h2⟩ := and2 (show (chkE st t x && chkEs st (.cons t2 r) (y :: xs)) = true from h)
      exact jb_and k (soundE t G h1) (soundB (.cons t2 r) k pos G h2)
theorem soundC : ∀ (i : Ot) {st : Sta} {X : Cx} {e : List Expr}, GX ca cf st X → chkC st i e = true → ∀ W, Takes X W → PTs X e (rdT X.K ca W (evC cf i))
  | .no, st, X, e, G, h, W, tk => by
    cases e <;> first | (cases h; done) | skip
    refine ⟨fun pins s σ H Q I hw => pts_nil.run pins s σ H Q I ?_⟩
    obtain ⟨g, oa, env, h, er, sr, f⟩ := hw
    exact f.here sr
  | .so t, st, X, e, G, h, W, tk => by
    match e, h with
    | [x], h => exact pts_one (soundT t G h W tk)
    | [], h => cases h
    | _ :: _ :: _, h => cases h
theorem soundL : ∀ (i : L) {st : Sta} {X : Cx} {e : Expr}, GX ca cf st X → chkL st i e = true → JL ca X e (evL cf i)
  | .dsp es, st, X, e, G, h => by
    cases e <;> first | (cases h; done) | skip
    exact jl_dsp (soundEs es G h)
  | .cmp p it c a, st, X, e, G, h => by
    cases e <;> first | (cases h; done) | skip
    rename_i elt gens sc pos
    match gens, h with
    | [⟨tg, iter, ifs, 0⟩], h =>
      obtain ⟨h, h5⟩ := and2 (show (chkI st it iter && itTg it tg && blkC st.N (scOf st) sc (ptOwn st p) && chkPt (st.blk sc) p tg && chkC (st.blk sc) c ifs && chkE (st.blk sc) a elt) = true from h)
      obtain ⟨h, h4⟩ := and2 h
      obtain ⟨h, h3⟩ := and2 h
      obtain ⟨h, h2⟩ := and2 h
      obtain ⟨h1, ht⟩ := and2 h
      have ok := blkOk_of G h2
      have hs : ∀ x, foldedSetIterable iter X.env x = pure x := fold_eq (chkI_plain h1)
      exact jl_cmp (own := ptOwn st p) G.calm G.nd (soundI it G h1 ht) ok (ptOwn_slots st p) (fun s H C cl fp => pg_of (G.blk ok.kind s H C cl fp) h3)
        (fun s H C cl fp => soundC c (G.blk ok.kind s H C cl fp) h4 W0 takes0) (fun s H C cl fp => soundE a (G.blk ok.kind s H C cl fp) h5 W0 takes0) hs
  | .lof a, st, X, e, G, h => by
    cases e <;> first | (cases h; done) | skip
    obtain ⟨p, x, rfl, rfl, rfl, h1, h2, h3⟩ := chkCall1_of h
    exact jl_lof G h1 h2 (soundE a G h3) (star_eq (chkE_plain h3))
  | .lrg a, st, X, e, G, h => by
    cases e <;> first | (cases h; done) | skip
    obtain ⟨p, x, rfl, rfl, rfl, h1, h2, h3⟩ := chkCall1_of h
    cases x <;> first | (cases h3; done) | skip
    obtain ⟨p', x', rfl, rfl, rfl, h4, h5, h6⟩ := chkCall1_of h3
    exact jl_lrg G h1 h2 h4 h5 (soundE a G h6) (star_eq (chkE_plain h6))
theorem soundI : ∀ (i : Iv) {st : Sta} {X : Cx} {tg e : Expr}, GX ca cf st X → chkI st i e = true → itTg i tg = true → JI ca X tg e (evI cf i)
  | .val a, st, X, tg, e, G, h, _ => ji_val (soundE a G (by cases e <;> exact h))
  | .rg1 a, st, X, tg, e, G, h, _ => by
    cases e <;> first | (cases h; done) | skip
    obtain ⟨p, x, rfl, rfl, rfl, h1, h2, h3⟩ := chkCall1_of h
    exact ji_rg1 G h1 h2 (soundE a G h3) (star_eq (chkE_plain h3))
  | .rg2 a b, st, X, tg, e, G, h, _ => by
    cases e <;> first | (cases h; done) | skip
    obtain ⟨p, x, y, rfl, rfl, rfl, h1, h2, h3⟩ := chkCall2_of h
    obtain ⟨h4, h5⟩ := and2 h3
    exact ji_rg2 G h1 h2 (soundE a G h4) (soundE b G h5) (star_eq (chkE_plain h4)) (star_eq (chkE_plain h5))
  | .rv1 a, st, X, tg, e, G, h, _ => by
    cases e <;> first | (cases h; done) | skip
    obtain ⟨p, x, rfl, rfl, rfl, h1, h2, h3⟩ := chkCall1_of h
    cases x <;> first | (cases h3; done) | skip
    obtain ⟨p', x', rfl, rfl, rfl, h4, h5, h6⟩ := chkCall1_of h3
    exact ji_rv1 G h4 h5 h1 h2 (soundE a G h6) (star_eq (chkE_plain h6))
  | .rv2 a b, st, X, tg, e, G, h, _ => by
    cases e <;> first | (cases h; done) | skip
    obtain ⟨p, x, rfl, rfl, rfl, h1, h2, h3⟩ := chkCall1_of h
    cases x <;> first | (cases h3; done) | skip
    obtain ⟨p', x', y', rfl, rfl, rfl, h4, h5, h6⟩ := chkCall2_of h3
    obtain ⟨h7, h8⟩ := and2 h6
    exact ji_rv2 G h4 h5 h1 h2 (soundE a G h7) (soundE b G h8) (star_eq (chkE_plain h7)) (star_eq (chkE_plain h8))
  | .enu a, st, X, tg, e, G, h, ht => by
    cases tg <;> first | (cases ht; done) | skip
    cases e <;> first | (cases h; done) | skip
    obtain ⟨p, x, rfl, rfl, rfl, h1, h2, h3⟩ := chkCall1_of h
    exact ji_enu G h1 h2 (soundE a G h3) (star_eq (chkE_plain h3))
end
end
end PG


set_option Elab.async false
set_option maxRecDepth 100000
set_option linter.unusedVariables false
/-! PgC5: the look is sound: statements. -/
namespace PG
open PySem L2

set_option maxHeartbeats 4000000
section
variable {ca : CA} {cf : Cf} {st : Sta} {X : Cx}
/-- a def's own block: loops pass its errors on -/
structure GB (X : Cx) : Prop where
  pass : PassesOwn (model X.prog X.w) X.A X.env X.xe

def swB (env : Env) (t : Str) (pos vpos : Pos) (scope : Scope) : Bool :=
  env.blockKind == .function && env.kindOf t == some .local && pos.line == vpos.line && !(scope.names.any fun (n, k) => n == t && (k == .local || k == .cell))
theorem sw_eq {e : Expr} {gens : List Comprehension} {scope : Scope} {pos py : Pos} {x : Str} {l : Nat} {env : Env} : swapsWith (.ListComp e gens scope pos) (some (.Name x py)) l env = pure (swB env x py pos scope) := rfl

theorem sole_eq {t v : Expr} {l : Nat} {env : Env} : swapsWithSole [t] v l env = swapsWith v (some t) l env := by simp only [swapsWithSole]
theorem swap1_eq {t v : Expr} {l : Nat} {env : Env} (h : notComp v = true) : swapsWithSole [t] v l env = pure false := by rw [sole_eq]; exact swap_eq h
theorem base1_eq {e : Expr} {a : Str} {env : Env} (h : notCall e = true) : attributeBase e a env (eval e env) = eval e env := by
  cases e <;> first | rfl | cases h
theorem js_asgL {y : Str} {py pos : Pos} {i : Nat} {e : Expr} {m : En → Hm → Rs (List PV)} {m' : En → Hm → Rs PV} (rd : ∀ W σ H Q, rdE X.K ca W m' σ H Q → rdL X.K ca W m σ H Q)
    (h : ∀ W, Takes X W → PS X (.Assign [.Name y py] e pos) (tAsg (rdL X.K ca W m) (gName i))) :
    JS ca X (.Assign [.Name y py] e pos) fun env h => bindS (m' env h) env fun v h1 => match ptSet env (.nm i) v with
      | some env' => some (.nx, env', h1)
      | none => none := fun W b tk => PS_imp (h W tk) fun D σ H ⟨g, oa, env, h, fr, f⟩ => by
  refine rd W σ H _ (sstep fr f fun y H1 g1 h1 v e1 fr1 v1 f1 => ?_)
  split at f1
  · rename_i env' hp
    exact pt_ok (p := .nm i) fr1.er v1 hp fun σ' oa' er' _ ho => f1 σ' H1 g1 oa' (fr1.slots er' ho)
  · exact f1.elim
theorem setL (G : GX ca cf st X) {l : L} {x : Str} {py pos : Pos} {v : Expr} {i : Nat} (hN : st.N[i]? = some x) (hl : locB st x = true) (h : chkL st l v = true) :
    ∀ W, Takes X W → PS X (.Assign [.Name x py] v pos) (tAsg (rdL X.K ca W (evL cf l)) (gName i)) := by
  intro W tk
  obtain ⟨l1, l2⟩ := G.loca hl
  have hg : PG X (.Name x py) (gName i) := pg_name G.nd (by rw [G.hN]; exact hN) l1 l2
  have gen : swapsWithSole [.Name x py] v pos.line X.env = pure false → PS X (.Assign [.Name x py] v pos) (tAsg (rdL X.K ca W (evL cf l)) (gName i)) := fun hs =>
    ps_asg (soundL l G h W tk) hg hs rfl rfl
  by_cases hc : notComp v = true
  · exact gen (swap1_eq hc)
  · cases v <;> first | exact absurd rfl hc | skip
    · rename_i elt gens sc vpos
      cases hb : swB X.env x py vpos sc with
      | false => exact gen (by rw [sole_eq, sw_eq, hb])
      | true =>
        cases l <;> first | (cases h; done) | skip
        rename_i p it c a
        match gens, h with
        | [⟨tg, iter, ifs, 0⟩], h =>
          obtain ⟨h, h5⟩ := and2 (show (chkI st it iter && itTg it tg && blkC st.N (scOf st) sc (ptOwn st p) && chkPt (st.blk sc) p tg && chkC (st.blk sc) c ifs && chkE (st.blk sc) a elt) = true from h)
          obtain ⟨h, h4⟩ := and2 h
          obtain ⟨h, h3⟩ := and2 h
          obtain ⟨h, h2⟩ := and2 h
          obtain ⟨h1, ht⟩ := and2 h
          have ok := blkOk_of G h2
          have hs : ∀ x, foldedSetIterable iter X.env x = pure x := fold_eq (chkI_plain h1)
          have hyl : X.env.scope.names.lookup x = some .local := by
            unfold swB at hb
            simp only [Bool.and_eq_true] at hb
            exact of_decide_eq_true (by simpa [Env.kindOf] using hb.1.1.2)
          exact ps_setCmp (own := ptOwn st p) G.calm G.nd (by rw [G.hN]; exact hN) hyl (by rw [sw_eq, hb]) (soundI it G h1 ht) ok (ptOwn_slots st p) (fun s H C cl fp => pg_of (G.blk ok.kind s H C cl fp) h3)
            (fun s H C cl fp => soundC c (G.blk ok.kind s H C cl fp) h4 W0 takes0) (fun s H C cl fp => soundE a (G.blk ok.kind s H C cl fp) h5 W0 takes0) hs tk
    · cases l <;> cases h
    · cases l <;> cases h
theorem append_eq : Str.ofString "append" = ("append" : Str) := rfl
theorem chkE_comp {st : Sta} {i : E} {e : Expr} (h : chkE st i e = true) : notComp e = true ∨ (∃ l, i = .lst l) ∨ (∃ l, i = .rf l) := by
  cases i <;> first | exact .inr (.inl ⟨_, rfl⟩) | exact .inr (.inr ⟨_, rfl⟩) | skip
  all_goals (refine .inl ?_; cases e <;> first | rfl | cases h)
theorem chkE_lc {st : Sta} {i : E} {e : Expr} (h : chkE st i e = true) (h2 : notLC e = true) : notComp e = true := by
  have chkL_lc : ∀ l, chkL st l e = true → notComp e = true := fun l q => by
    cases e <;> first | rfl | (cases h2; done) | (cases l <;> cases q)
  rcases chkE_comp h with q | ⟨l, rfl⟩ | ⟨l, rfl⟩
  · exact q
  · exact chkL_lc l h
  · exact chkL_lc l h
theorem chkPt_nm {st : Sta} {i : Nat} {tg : Expr} (h : chkPt st (.nm i) tg = true) : ∃ x py, tg = .Name x py ∧ st.N[i]? = some x ∧ locB st x = true := by
  cases tg <;> first | (cases h; done) | skip
  rename_i x py
  obtain ⟨q1, q2⟩ := and2 (show (decide (st.N[i]? = some x) && locB st x) = true from h)
  exact ⟨x, py, rfl, of_decide_eq_true q1, q2⟩
mutual
theorem soundS : ∀ (i : S) {st : Sta} {X : Cx} {s : Stmt}, GX ca cf st X → GB X → chkS st i s = true → JS ca X s (evS cf i)
  | .asg p e, st, X, s, G, B, h => by
    cases s <;> first | (cases h; done) | skip
    rename_i tgs v pos
    match tgs, h with
    | [tg], h =>
      obtain ⟨h, h3⟩ := and2 (show (chkPt st p tg && chkE st e v && asgPair tg v) = true from h)
      obtain ⟨h1, h2⟩ := and2 h
      have gen : notComp v = true → JS ca X (.Assign [tg] v pos) (evS cf (.asg p e)) := fun hc => by
        refine js_asg (soundE e G h2) (pg_of G h1) (swap1_eq hc) (stores_none ?_) ?_
        · cases p with
          | nm i => cases tg <;> first | (cases h1; done) | rfl
          | tp is =>
            cases tg <;> first | (cases h1; done) | skip
            cases v <;> first | rfl | (cases h3; done)
        · cases p with
          | nm i => cases tg <;> first | (cases h1; done) | rfl
          | tp is => cases tg <;> first | (cases h1; done) | rfl
      rcases chkE_comp h2 with hc | ⟨l, rfl⟩ | ⟨l, rfl⟩
      · exact gen hc
      · cases p with
        | nm i =>
          obtain ⟨x, py, rfl, q1, q2⟩ := chkPt_nm h1
          exact js_asgL (fun W σ H Q => rd_lst) (setL G q1 q2 h2)
        | tp is =>
          cases tg <;> first | (cases h1; done) | skip
          exact gen (chkE_lc h2 (by cases v <;> first | rfl | cases h3))
      · cases p with
        | nm i =>
          obtain ⟨x, py, rfl, q1, q2⟩ := chkPt_nm h1
          exact js_asgL (fun W σ H Q => rd_rf) (setL G q1 q2 h2)
        | tp is =>
          cases tg <;> first | (cases h1; done) | skip
          exact gen (chkE_lc h2 (by cases v <;> first | rfl | cases h3))
    | [], h => cases h
    | _ :: _ :: _, h => cases h
  | .own i l, st, X, s, G, B, h => by
    cases s <;> first | (cases h; done) | skip
    rename_i tgs v pos
    match tgs, h with
    | [.Name x py], h =>
      obtain ⟨h, h3⟩ := and2 (show (decide (st.N[i]? = some x) && locB st x && chkL st l v) = true from h)
      obtain ⟨h1, h2⟩ := and2 h
      exact js_own (setL G (of_decide_eq_true h1) h2 h3)
  | .exp e, st, X, s, G, B, h => by
    cases s <;> first | (cases h; done) | skip
    rename_i v pos
    obtain ⟨h1, h2⟩ := and2 (show (chkE st e v && notLC v) = true from h)
    exact js_exp (soundE e G h1) (swap_eq (chkE_lc h1 h2))
  | .appV i e, st, X, s, G, B, h => by
    cases s <;> first | (cases h; done) | skip
    rename_i v pos
    match v, h with
    | .Call (.Attribute (.Name x _) a p) [v] [] c, h =>
      obtain ⟨h, h6⟩ := and2 (show (decide (Str.ofString "append" = a) && decide (st.N[i]? = some x) && visB st x && nodb x && (p.endLine == c.line) && chkE st e v) = true from h)
      obtain ⟨h, h5⟩ := and2 h
      obtain ⟨h, h4⟩ := and2 h
      obtain ⟨h, h3⟩ := and2 h
      obtain ⟨h1, h2⟩ := and2 h
      have e1 := of_decide_eq_true h1
      subst e1
      exact js_appV G (of_decide_eq_true h2) h3 (nodb_of h4).1 (nodb_of h4).2 (soundE e G h6) h5 (star_eq (chkE_plain h6))
  | .app t e, st, X, s, G, B, h => by
    cases s <;> first | (cases h; done) | skip
    rename_i v pos
    match v, h with
    | .Call (.Attribute o a p) [v] [] c, h =>
      obtain ⟨h, h5⟩ := and2 (show (decide (Str.ofString "append" = a) && (p.endLine == c.line) && chkE st t o && chkE st e v && notCall o) = true from h)
      obtain ⟨h, h4⟩ := and2 h
      obtain ⟨h, h3⟩ := and2 h
      obtain ⟨h1, h2⟩ := and2 h
      have e1 := of_decide_eq_true h1
      subst e1
      exact js_app (soundE t G h3) (soundE e G h4) (base1_eq h5) h2 (star_eq (chkE_plain h4))
  | .setV i k e, st, X, s, G, B, h => by
    cases s <;> first | (cases h; done) | skip
    rename_i tgs v pos
    match tgs, h with
    | [.Subscript (.Name x p2) ix p], h =>
      obtain ⟨h, h6⟩ := and2 (show (decide (st.N[i]? = some x) && visB st x && nodb x && chkE st k ix && chkE st e v && notLC v) = true from h)
      obtain ⟨h, h5⟩ := and2 h
      obtain ⟨h, h4⟩ := and2 h
      obtain ⟨h, h3⟩ := and2 h
      obtain ⟨h1, h2⟩ := and2 h
      have hc := chkE_lc h5 h6
      exact js_setV G (of_decide_eq_true h1) h2 (nodb_of h3).1 (nodb_of h3).2 (soundE k G h4) (soundE e G h5) (swap1_eq hc) (stores_none rfl) (asg_eq (chkE_plain h4))
  | .setI t k e, st, X, s, G, B, h => by
    cases s <;> first | (cases h; done) | skip
    rename_i tgs v pos
    match tgs, h with
    | [.Subscript o ix p], h =>
      have h : (chkE st t o && chkE st k ix && chkE st e v && notLC v) = true := h
      obtain ⟨h, h6⟩ := and2 h
      obtain ⟨h, h5⟩ := and2 h
      obtain ⟨h3, h4⟩ := and2 h
      have hc := chkE_lc h5 h6
      exact js_setI (soundE t G h3) (soundE k G h4) (soundE e G h5) (swap1_eq hc) (stores_none rfl) (asg_eq (chkE_plain h4))
  | .ret e, st, X, s, G, B, h => by
    cases s <;> first | (cases h; done) | skip
    rename_i v pos
    match v, h with
    | some v, h => exact js_ret (soundE e G h)
  | .retN, st, X, s, G, B, h => by
    cases s <;> first | (cases h; done) | skip
    rename_i v pos
    match v, h with
    | none, h => exact js_retN
  | .ife c a b, st, X, s, G, B, h => by
    cases s <;> first | (cases h; done) | skip
    rename_i t p q pos
    obtain ⟨h, h3⟩ := and2 (show (chkT st c t && chkSs st a p && chkSs st b q) = true from h)
    obtain ⟨h1, h2⟩ := and2 h
    exact js_ife (soundT c G h1) (soundSs a G B h2) (soundSs b G B h3)
  | .whl c b, st, X, s, G, B, h => by
    cases s <;> first | (cases h; done) | skip
    rename_i t p q pos
    match q, h with
    | [], h =>
      obtain ⟨h1, h2⟩ := and2 (show (chkT st c t && chkSs st b p) = true from h)
      exact js_whl B.pass (soundT c G h1) (soundSs b G B h2)
  | .fr p it b, st, X, s, G, B, h => by
    cases s <;> first | (cases h; done) | skip
    rename_i tg iter body q pos
    match q, h with
    | [], h =>
      obtain ⟨h, h3⟩ := and2 (show (chkPt st p tg && chkI st it iter && itTg it tg && chkSs st b body) = true from h)
      obtain ⟨h, ht⟩ := and2 h
      obtain ⟨h1, h2⟩ := and2 h
      exact js_for B.pass G.calm (soundI it G h2 ht) (pg_of G h1) (soundSs b G B h3) (fold_eq (chkI_plain h2))
  | .aug i op e, st, X, s, G, B, h => by
    cases s <;> first | (cases h; done) | skip
    rename_i tg o v pos
    match tg, h with
    | .Name x _, h =>
      obtain ⟨h, h4⟩ := and2 (show (decide (st.N[i]? = some x) && locB st x && decide (boAst op = o) && chkE st e v) = true from h)
      obtain ⟨h, h3⟩ := and2 h
      obtain ⟨h1, h2⟩ := and2 h
      have e1 := of_decide_eq_true h3
      subst e1
      exact js_aug G (of_decide_eq_true h1) h2 (soundE e G h4)
  | .extV i e, st, X, s, G, B, h => by
    cases s <;> first | (cases h; done) | skip
    rename_i v pos
    match v, h with
    | .Call (.Attribute (.Name x _) a p) [v] [] c, h =>
      obtain ⟨h, h6⟩ := and2 (show (decide (Str.ofString "extend" = a) && decide (st.N[i]? = some x) && visB st x && nodb x && (p.endLine == c.line) && chkE st e v) = true from h)
      obtain ⟨h, h5⟩ := and2 h
      obtain ⟨h, h4⟩ := and2 h
      obtain ⟨h, h3⟩ := and2 h
      obtain ⟨h1, h2⟩ := and2 h
      have e1 := of_decide_eq_true h1
      subst e1
      exact js_extV G (of_decide_eq_true h2) h3 (nodb_of h4).1 (nodb_of h4).2 (soundE e G h6) h5 (star_eq (chkE_plain h6))
  | .popX i, st, X, s, G, B, h => by
    cases s <;> first | (cases h; done) | skip
    rename_i v pos
    match v, h with
    | .Call (.Attribute (.Name x _) a p) [] [] c, h =>
      obtain ⟨h, h5⟩ := and2 (show (decide (Str.ofString "pop" = a) && decide (st.N[i]? = some x) && visB st x && nodb x && (p.endLine == c.line)) = true from h)
      obtain ⟨h, h4⟩ := and2 h
      obtain ⟨h, h3⟩ := and2 h
      obtain ⟨h1, h2⟩ := and2 h
      have e1 := of_decide_eq_true h1
      subst e1
      exact js_popX G (of_decide_eq_true h2) h3 (nodb_of h4).1 (nodb_of h4).2 h5
  | .popV t i, st, X, s, G, B, h => by
    cases s <;> first | (cases h; done) | skip
    rename_i tgs v pos
    match tgs, h with
    | [tg], h =>
      match v, h with
      | .Call (.Attribute (.Name x _) a p) [] [] c, h =>
        obtain ⟨h, h6⟩ := and2 (show (decide (Str.ofString "pop" = a) && decide (st.N[i]? = some x) && visB st x && nodb x && (p.endLine == c.line) && chkPt st t tg) = true from h)
        obtain ⟨h, h5⟩ := and2 h
        obtain ⟨h, h4⟩ := and2 h
        obtain ⟨h, h3⟩ := and2 h
        obtain ⟨h1, h2⟩ := and2 h
        have e1 := of_decide_eq_true h1
        subst e1
        refine js_popV G (of_decide_eq_true h2) h3 (nodb_of h4).1 (nodb_of h4).2 h5 (pg_of G h6) (swap1_eq rfl) (stores_none ?_) ?_
        · cases t with
          | nm i => cases tg <;> first | (cases h6; done) | rfl
          | tp is => cases tg <;> first | (cases h6; done) | rfl
        · cases t with
          | nm i => cases tg <;> first | (cases h6; done) | rfl
          | tp is => cases tg <;> first | (cases h6; done) | rfl
  | .brk, st, X, s, G, B, h => by
    cases s <;> first | (cases h; done) | skip
    exact js_brk
  | .cnt, st, X, s, G, B, h => by
    cases s <;> first | (cases h; done) | skip
    exact js_cnt
  | .pass, st, X, s, G, B, h => by
    cases s <;> first | (cases h; done) | skip
    exact js_pass
  | .frz _, st, X, s, G, B, h => by cases s <;> cases h
  | .never, st, X, s, G, B, h => js_never
theorem soundSs : ∀ (i : Ss) {st : Sta} {X : Cx} {s : List Stmt}, GX ca cf st X → GB X → chkSs st i s = true → JB ca X s (evSs cf i)
  | .nil, st, X, s, G, B, h => by
    cases s <;> first | (cases h; done) | skip
    exact jb_nil
  | .cons s r, st, X, ss, G, B, h => by
    have gen : (∃ a as, ss = a :: as ∧ chkS st s a = true ∧ chkSs st r as = true) → JB ca X ss (evSs cf (.cons s r)) := fun ⟨a, as, e, h1, h2⟩ => by
      subst e
      exact jb_cons (soundS s G B h1) (soundSs r G B h2)
    cases s with
    | frz i => exact jb_frz (soundSs r G B (by cases ss <;> exact h))
    | _ =>
      refine gen ?_
      cases ss with
      | nil => cases h
      | cons a as =>
        obtain ⟨h1, h2⟩ := Bool.and_eq_true_iff.mp h
        exact ⟨a, as, rfl, h1, h2⟩
end
end
end PG


set_option Elab.async false
set_option maxRecDepth 100000
set_option linter.unusedVariables false
/-! PgD: defs that call one another: each does what its small text does. -/
namespace PG
open PySem L2 PyProof.Rows

structure Df where
  x : String
  ps : List Str
  N : List Str
  st : Stmt
  d : FnDef
/-- what the module holds -/
structure Mo where
  free : List String
  consts : List (String × PV)
  defs : List Df
def Mo.fns (m : Mo) : List (String × Nat) := m.defs.map fun D => (D.x, D.ps.length)
def Mo.sta (m : Mo) (D : Df) : Sta := ⟨D.N, (defScope D.st).names, m.free, m.consts, m.fns⟩
def Mo.T (m : Mo) : Tb := fun x => (m.defs.find? fun D => D.x == x).map (·.d)
def isFree : NameKind → Bool
  | .free => true
  | _ => false
def scB (N ps : List Str) (sc : Scope) : Bool :=
  decide (sc.kind = .function) && !sc.isCoroutine && !sc.isGenerator && decide N.Nodup && decide (N.take ps.length = ps) && ps.all (fun x => decide (sc.names.lookup x = some .local) || decide (sc.names.lookup x = some .cell)) && sc.names.all fun y => !isFree y.2
theorem scB_of {N ps : List Str} {sc : Scope} (h : scB N ps sc = true) : FnScope N ps sc := by
  unfold scB at h
  simp only [Bool.and_eq_true, decide_eq_true_eq, Bool.not_eq_true', List.all_eq_true, Bool.or_eq_true] at h
  obtain ⟨⟨⟨⟨⟨⟨h1, h2⟩, h3⟩, h4⟩, h5⟩, h6⟩, h7⟩ := h
  exact ⟨h1, h2, h3, h4, h5, h6, fun y hy e => by have := h7 y hy; rw [e] at this; cases this⟩
def Mo.good (m : Mo) (D : Df) : Bool :=
  scB D.N D.ps (defScope D.st) && decide (D.d.np = D.ps.length) && decide (D.ps.length ≤ D.N.length) && decide (D.d.ns = D.N.length) && !(Str.ofString D.x == ("__debug__" : Str)) && chkSs (m.sta D) D.d.body (defBody D.st)

section
variable {P : Program} {w : World} {K : PySem.W.Frag} {mg : Str → Option Value} {base : Heap} {ca : CA}
abbrev FnP (K : PySem.W.Frag) (D : Df) (f : Addr) (fd : FuncData) : Prop := FunD K (Str.ofString D.x) (Str.ofString D.x) (defArgs D.st) (defBody D.st) (defScope D.st) [] [] f fd
structure MoOk (K : PySem.W.Frag) (mg : Str → Option Value) (m : Mo) : Prop where
  fn : ∀ D ∈ m.defs, ∃ a fd, mg (Str.ofString D.x) = some (.ref a) ∧ FnP K D a fd
  binds : ∀ D ∈ m.defs, ∀ a fd, FnP K D a fd → Binds K fd D.ps []
  good : ∀ D ∈ m.defs, m.good D = true
  uniq : ∀ D ∈ m.defs, m.T D.x = some D.d
  free : ∀ x ∈ m.free, mg (Str.ofString x) = none
  consts : ∀ x c, m.consts.lookup x = some c → c.nb = true ∧ ∃ u v, mg (Str.ofString x) = some u ∧ RelV v u ∧ ∀ g H, VR K g H c v

theorem start_er {g : G} {H : Hp} {N : List Str} {as : List PV} {vs : List V} (r : VRs K g H as vs) (hl : as.length ≤ N.length) :
    ER K g H (as.map .val ++ List.replicate (N.length - as.length) .no) (L2.start N vs) fun _ => none := by
  have e := r.length
  refine ⟨by simp [L2.start, e], fun i s y h1 h2 => ?_, fun i _ => rfl, fun i j a h _ => (by cases h), fun i a h => (by cases h)⟩
  unfold L2.start at h2
  by_cases hi : i < as.length
  · rw [List.getElem?_append_left (by simpa using hi), List.getElem?_map] at h1
    rw [List.getElem?_append_left (by simpa [e] using hi), List.getElem?_map] at h2
    rw [List.getElem?_eq_getElem hi] at h1
    obtain ⟨b, hb, rb⟩ := r.get (List.getElem?_eq_getElem hi)
    rw [hb] at h2
    cases h1; cases h2
    exact ⟨rfl, b, rfl, rb⟩
  · rw [List.getElem?_append_right (by simpa using hi)] at h1
    rw [List.getElem?_append_right (by simpa [e] using hi)] at h2
    obtain ⟨_, q1⟩ := List.getElem?_eq_some_iff.mp h1
    obtain ⟨_, q2⟩ := List.getElem?_eq_some_iff.mp h2
    rw [List.getElem_replicate] at q1 q2
    subst q1 q2
    rfl

theorem gx_of {m : Mo} (M : MoOk K mg m) {D : Df} (hD : D ∈ m.defs) {k : Nat} (ih : ∀ D ∈ m.defs, ∀ a fd, FnP K D a fd → FnOk P w K mg base (L2.CX P w) k a fd D.ps (spF K ca (callF m.T k D.x)))
    {qual : Str} {f : Addr} {cdv : Value} {A : Around} {outer : List Env} {s : Shared} {H : Hp} {E : XK} (hr : Room k (A.deeper (envOfC qual (defScope D.st) s.heap.objs.size f cdv))) :
    GX ca (callF m.T k) (m.sta D) (cxOf (L2.CX P w) P w K mg base D.N qual (defScope D.st) f cdv A outer s H E) := by
  have g := M.good D hD
  unfold Mo.good at g
  simp only [Bool.and_eq_true] at g
  obtain ⟨⟨⟨⟨⟨g1, g2⟩, g3⟩, g4⟩, g5⟩, g6⟩ := g
  have S := scB_of g1
  refine ⟨rfl, S.nd, fun x h => h, fun x h => ⟨h, rfl⟩, fun x h => .inl h, fun x h => h, S.kind, rfl, M.free, M.consts, fun f n hf => ?_⟩
  obtain ⟨D', hD', e⟩ := List.mem_map.mp (show (f, n) ∈ m.defs.map fun D => (D.x, D.ps.length) from hf)
  cases e
  obtain ⟨a, fd, e1, F⟩ := M.fn D' hD'
  have g' := M.good D' hD'
  unfold Mo.good at g'
  simp only [Bool.and_eq_true] at g'
  exact ⟨⟨a, fd, D'.ps, k, e1, F.kp, M.binds D' hD' a fd F, hr, ih D' hD' a fd F⟩, by have := g'.1.2; simpa using this⟩
theorem fin_of_run {g : G} {h : Hm} {H : Hp} {N : List Str} {d : FnDef} {cf : Cf} {as : List PV} {E : XK} {Q : VK} (hns : d.ns = N.length) (f : Fin K ca (fun cls d _ H' => E cls d H') [] g H (runB cf d as h) fun v _ g' H' => ∀ y, VR K g' H' v y → Q y H') :
    as.length = d.np ∧ d.np ≤ d.ns ∧ FinS K ca (fun cls d _ H => E cls d H) ⟨g, H, []⟩ (evSs cf d.body (as.map .val ++ List.replicate (N.length - as.length) .no) h) { nx := fun _ H' => Q .non H', rt := Q } := by
  unfold runB at f
  split at f
  · rename_i hc
    refine ⟨hc.1, hc.2, ?_⟩
    rw [hc.1, ← hns]
    generalize hm : evSs cf d.body (as.map .val ++ List.replicate (d.ns - d.np) .no) h = rr at f ⊢
    rcases rr with _ | ⟨fl, env', h'⟩
    · exact f
    · skip
      cases fl with
      | nx => exact fun σ' H' g' oa fr => f g' H' fr.ext fr.sr .non rfl
      | bk => exact f.elim
      | ct => exact f.elim
      | rt v => exact fun g' H' y e s r => f g' H' e s y r
      | xc x => exact fun σ' H' g' oa cls dd fr xr => f g' H' cls dd fr.ext fr.sr xr
  · exact f.elim
/-- each def does what its small text does -/
theorem fn_all {m : Mo} (M : MoOk K mg m) : ∀ (k : Nat), ∀ D ∈ m.defs, ∀ a fd, FnP K D a fd → FnOk P w K mg base (L2.CX P w) k a fd D.ps (spF K ca (callF m.T k D.x))
  | 0, D, hD, a, fd, F => ⟨fun vs H Q E ⟨g, h, as, s, r, f⟩ => f.elim, fun A outer s H args us vs Q E hr he hb hv ⟨g, h, as, s', r, f⟩ => f.elim⟩
  | k + 1, D, hD, a, fd, F => by
    have gd := M.good D hD
    unfold Mo.good at gd
    simp only [Bool.and_eq_true, decide_eq_true_eq] at gd
    obtain ⟨⟨⟨⟨⟨g1, g2⟩, g3⟩, g4⟩, g5⟩, g6⟩ := gd
    have S := scB_of g1
    have hT : ∀ as h, callF m.T (k + 1) D.x as h = runB (callF m.T k) D.d as h := fun as h => by
      show (match m.T D.x with
        | none => none
        | some d => runB (callF m.T k) d as h) = _
      rw [M.uniq D hD]
    refine F.ok S (fun vs H Q E ⟨g, h, as, s, r, f⟩ => ?_) fun cdv A outer s H vs Q E hr ⟨g, h, as, sr, r, f⟩ => ?_
    · rw [hT] at f
      rw [r.length, (fin_of_run g4 f).1, g2]
    · rw [hT] at f
      obtain ⟨f1, f2, f3⟩ := fin_of_run g4 f
      have Gx := gx_of (P := P) (w := w) (ca := ca) M hD (fun D' hD' a' fd' F' => fn_all M k D' hD' a' fd' F') (qual := Str.ofString D.x) (f := a) (cdv := cdv) (A := A) (outer := outer) (s := s) (H := H) (E := E) hr
      refine ⟨_, soundSs D.d.body Gx ⟨passes_of rfl⟩ g6 (fun cls d _ H => E cls d H) ⟨g, H, []⟩ (takes_of rfl rfl rfl rfl), ?_⟩
      exact ⟨g, fun _ => none, _, h, ⟨start_er r (by rw [f1]; omega), sr, Ext.refl _ _, fun i a q => (by cases q), fun m hm => (by cases hm)⟩, f3⟩
end
end PG


set_option Elab.async false
set_option maxRecDepth 100000
set_option linter.unusedVariables false
/-! PgH: the head: what stands behind the top, told as a Mo. -/
namespace PG
open PySem L2 PyProof.Rows

/-! ### constants of the module -/
mutual
def cK (K : PySem.W.Frag) : PV → Value → Bool
  | .non, .none => true
  | .bl a, .bool b => a == b
  | .int a, .int b _ => decide (a = b)
  | .str a, .str b _ => decide (a = b) && decide (a.length ≤ sizeLine)
  | .tup xs, .ref a => match K.lookup a with
    | some ⟨.type c, _, .seq its _, _⟩ => c == "tuple" && decide (its.size ≤ sizeLine) && cKs K xs its.toList
    | _ => false
  | _, _ => false
def cKs (K : PySem.W.Frag) : List PV → List Value → Bool
  | [], [] => true
  | x :: xs, u :: us => cK K x u && cKs K xs us
  | _, _ => false
end
mutual
theorem cK_ok {K : PySem.W.Frag} : ∀ {c : PV} {u : Value}, cK K c u = true → c.nb = true ∧ ∃ v, RelV v u ∧ ∀ g H, VR K g H c v
  | .non, u, h => by
    cases u <;> first | (cases h; done) | skip
    exact ⟨rfl, .non, rfl, fun _ _ => rfl⟩
  | .bl a, u, h => by
    cases u <;> first | (cases h; done) | skip
    have e := eq_of_beq (show (_ == _) = true from h)
    subst e
    exact ⟨rfl, .bl _, rfl, fun _ _ => rfl⟩
  | .int a, u, h => by
    cases u <;> first | (cases h; done) | skip
    rename_i b t
    have e : a = b := of_decide_eq_true h
    subst e
    exact ⟨rfl, .int _, ⟨t, rfl⟩, fun _ _ => rfl⟩
  | .str a, u, h => by
    cases u <;> first | (cases h; done) | skip
    rename_i b t
    obtain ⟨h1, h2⟩ := and2 (show (decide (a = b) && decide (a.length ≤ sizeLine)) = true from h)
    have e := of_decide_eq_true h1
    subst e
    exact ⟨rfl, .str _, ⟨t, rfl⟩, fun _ _ => ⟨rfl, of_decide_eq_true h2⟩⟩
  | .tup xs, u, h => by
    cases u <;> first | (cases h; done) | skip
    rename_i a
    have h : (match K.lookup a with
    | some ⟨.type c, _, .seq its _, _⟩ => c == "tuple" && decide (its.size ≤ sizeLine) && cKs K xs its.toList
    | _ => false) = true := h
    split at h
    · rename_i c od its n sl hl
      obtain ⟨h, h3⟩ := and2 h
      obtain ⟨h1, h2⟩ := and2 h
      obtain ⟨vs, r, q⟩ := cKs_ok h3
      have e := eq_of_beq h1
      subst e
      exact ⟨rfl, .ref a, rfl, fun g H => ⟨a, vs, rfl, .inr ⟨_, its, n, hl, rfl, rfl, of_decide_eq_true h2, r⟩, q g H⟩⟩
    · cases h
  | .lst _, u, h => by cases u <;> cases h
  | .bor _, u, h => by cases u <;> cases h
  | .dct _, u, h => by cases u <;> cases h
  | .bod _, u, h => by cases u <;> cases h
  | .ref _, u, h => by cases u <;> cases h
  | .scr _, u, h => by cases u <;> cases h
  | .ty _, u, h => by cases u <;> cases h
theorem cKs_ok {K : PySem.W.Frag} : ∀ {c : List PV} {u : List Value}, cKs K c u = true → ∃ v, Vals v u ∧ ∀ g H, VRs K g H c v
  | [], u, h => by
    cases u <;> first | (cases h; done) | skip
    exact ⟨[], .nil, fun _ _ => rfl⟩
  | x :: xs, u, h => by
    cases u with
    | nil => cases h
    | cons y ys =>
      obtain ⟨h1, h2⟩ := and2 (show (cK K x y && cKs K xs ys) = true from h)
      obtain ⟨_, v, r, q⟩ := cK_ok h1
      obtain ⟨vs, r2, q2⟩ := cKs_ok h2
      exact ⟨v :: vs, .cons r r2, fun g H => ⟨v, vs, rfl, q g H, q2 g H⟩⟩
end

def Df.at_ (D : Df) : He.DefD := ⟨(Str.ofString D.x, none), Str.ofString D.x, Str.ofString D.x, defArgs D.st, defBody D.st, defScope D.st, [], []⟩
def Mo.fn (m : Mo) : List He.DefD := m.defs.map Df.at_
def Mo.fa (m : Mo) : List He.Fa := (m.defs.map fun D => He.Fa.glo (Str.ofString D.x)) ++ m.free.map fun x => He.Fa.free (Str.ofString x)
def Mo.exK (m : Mo) (K : PySem.W.Frag) : Bool := m.consts.all fun q => match PySem.W.nsIn K mainGlobals (Str.ofString q.1) with
  | some (some u) => cK K q.2 u
  | _ => false
def BindsD (D : Df) : Prop := ∀ (kV doc pm : Value) (an : Option Addr) (cdv ct : Value) (us : List Value), us.length = D.ps.length → bindArgs (PySem.W.fnOf (Str.ofString D.x) (Str.ofString D.x) (defArgs D.st) (defBody D.st) (defScope D.st) .none kV doc pm an cdv ct) ⟨us, []⟩ = pure (D.ps.zip us)
inductive BindsAll : List Df → Prop where
  | nil : BindsAll []
  | cons {D : Df} {r : List Df} (h : BindsD D) (t : BindsAll r) : BindsAll (D :: r)
theorem BindsAll.at : ∀ {l : List Df}, BindsAll l → ∀ D ∈ l, BindsD D
  | _, .cons h t, D, hD => by
    rcases List.mem_cons.mp hD with rfl | q
    · exact h
    · exact t.at D q
def Mo.static (m : Mo) : Bool := decide ((m.defs.map (·.x)).Nodup) && m.defs.all m.good
theorem find_uniq : ∀ {l : List Df}, (l.map (·.x)).Nodup → ∀ D ∈ l, (l.find? fun E => E.x == D.x) = some D
  | [], _, D, h => by cases h
  | E :: r, hn, D, h => by
    rw [List.map_cons, List.nodup_cons] at hn
    rcases List.mem_cons.mp h with rfl | q
    · rw [List.find?_cons, beq_self_eq_true]
    · have ne : (E.x == D.x) = false := by
        cases hb : E.x == D.x with
        | false => rfl
        | true => exact absurd (List.mem_map.mpr ⟨D, q, (eq_of_beq hb).symm⟩) hn.1
      rw [List.find?_cons, ne]
      exact find_uniq hn.2 D q
section
variable {P : Program} {w : World} {K : PySem.W.Frag} {h : Heap} {mg : Str → Option Value} {ca : CA} {m : Mo}
theorem mem_lookup {β : Type} {l : List (String × β)} {x : String} {c : β} (e : l.lookup x = some c) : (x, c) ∈ l := by
  induction l with
  | nil => cases e
  | cons p r ih =>
    rw [List.lookup_cons] at e
    cases hb : x == p.1 with
    | true =>
      rw [hb] at e
      cases e
      rw [eq_of_beq hb]
      exact List.mem_cons_self ..
    | false =>
      rw [hb] at e
      exact List.mem_cons_of_mem _ (ih e)
theorem mo_ok {fn : List He.DefD} {fa : List He.Fa} {ex : PySem.W.Frag → Bool} (hst : m.static = true) (hb : BindsAll m.defs) (X : K.In h) (Gn : h.Ns mainGlobals mg) (c : He.SaysX m.fa m.fn [] [] m.exK w h K) : MoOk K mg m := by
  obtain ⟨s1, s2⟩ := and2 hst
  have d := He.SaysT.d c.t
  have gl : ∀ D ∈ m.defs, mg (Str.ofString D.x) = some (.ref (He.ga K (Str.ofString D.x))) := fun D hD => He.glo_ok X Gn (d.facts (List.mem_append_left _ (List.mem_map.mpr ⟨D, hD, rfl⟩)))
  refine ⟨fun D hD => ?_, fun D hD a fd F => F.bindsN (hb.at D hD), List.all_eq_true.mp s2, fun D hD => ?_, fun x hx => ?_, fun x cc hx => ?_⟩
  · obtain ⟨fd, F⟩ := d.defs (d := D.at_) (List.mem_map.mpr ⟨D, hD, rfl⟩)
    exact ⟨_, fd, gl D hD, F⟩
  · show (m.defs.find? fun E => E.x == D.x).map (·.d) = some D.d
    rw [find_uniq (of_decide_eq_true s1) D hD]
    rfl
  · exact He.free_ok X Gn (d.facts (List.mem_append_right _ (List.mem_map.mpr ⟨x, hx, rfl⟩)))
  · have q := List.all_eq_true.mp c.more _ (mem_lookup hx)
    dsimp only at q
    split at q
    · rename_i u hu
      obtain ⟨q1, v, q2, q3⟩ := cK_ok q
      exact ⟨q1, u, v, PySem.W.mg_of X Gn hu, q2, q3⟩
    · cases q
/-- the law's def, at the head -/
theorem law_at {n k : Nat} {D : Df} {f : Addr} (hD : D ∈ m.defs) (hp : ∃ x, D.ps = [x]) (hst : m.static = true) (hb : BindsAll m.defs) (X : K.In h) (Gn : h.Ns mainGlobals mg) (c : He.SaysX m.fa m.fn [] [] m.exK w h K) (hfa : mg (Str.ofString D.x) = some (.ref f))
    (hs : ∀ ns : List Int, ns.length ≤ n → ∃ h', callF m.T k D.x [.scr (ns.map .int)] [] = some (.ok (.bl true), h')) :
    ∃ (K : PySem.W.Frag) (fd : FuncData) (sp : Sp), K.In h ∧ (∀ (s : Shared) (u : Value), BindsTo s fd ⟨[u], []⟩ [(D.ps.headD Str.empty, u)]) ∧
        (∀ (H : Hp) (a : Addr) (ns : List Int), ns.length ≤ n → Only H → SqL K H a (ns.map V.int) → sp [.ref a] H (fun v _ => v = .bl true) fun _ _ _ => False) ∧
        ∀ base : Heap, K.In base → base.Ns mainGlobals mg → FnOk P w K mg base (L2.CX P w) k f fd [D.ps.headD Str.empty] sp := by
  have M := mo_ok (fn := []) (fa := []) (ex := fun _ => true) hst hb X Gn c
  obtain ⟨a, fd, e, F⟩ := M.fn D hD
  rw [hfa] at e
  cases e
  obtain ⟨x, hx⟩ := hp
  have hx2 : D.ps.headD Str.empty = x := by rw [hx]; rfl
  rw [hx2]
  refine ⟨K, fd, spF K (fun _ => 0) (callF m.T k D.x), X, fun s u => ?_, fun H a ns hl hO hS => ?_, fun base _ _ => ?_⟩
  · have := FunD.bindsA (ps := D.ps) F (hb.at D hD) s [u] (by rw [hx]; rfl)
    rw [hx] at this
    exact this
  · obtain ⟨h', e⟩ := hs ns hl
    have hInts : ∀ (g : G) (l : List Int), VRs K g H (l.map .int) (l.map V.int) := fun g l => by
      induction l with
      | nil => rfl
      | cons i l ih => exact ⟨_, _, rfl, rfl, ih⟩
    have sc : ScrAt K ⟨[], fun _ => False⟩ H a (ns.map V.int) := by
      rcases hS with (q | ⟨o, q⟩) | q
      · rcases hO a with z | ⟨o, xs, z⟩ <;> rw [z] at q <;> cases q
      · exact .inl ⟨o, q, fun z => z⟩
      · exact .inr q
    refine ⟨⟨[], fun _ => False⟩, [], [.scr (ns.map .int)], ⟨rfl, List.nodup_nil, fun a h => (by cases h), fun i a o h => (by simp at h)⟩, ⟨_, [], rfl, ⟨a, _, rfl, sc, hInts _ ns⟩, rfl⟩, ?_⟩
    rw [e]
    intro g' H' _ _ y hy
    exact hy
  · have := fn_all (P := P) (w := w) (base := base) (ca := fun _ => 0) M k D hD _ fd F
    rw [hx] at this
    exact this
end

/-- the walk's end, where what a def lets out depends on the world -/
theorem walk_w {l : PySem.W.OpenLaw} {n k : Nat} {q : Program} {loose : List Str} {XP : (Str → Option Value) → Heap → Prop} {YP : World → Heap → Prop} {d : DefRec} {c : World → CXT} {x : Str}
    (h1 : l.most = some n) (h2 : n ≤ sizeLine) (h3 : d.params.defaults = []) (h4 : Room k callerA)
    (F : ∀ (w : World) (mg : Str → Option Value) (fa : Addr) (h : Heap), YP w h → h.Ns mainGlobals mg → mg d.name = some (.ref fa) →
      ∃ (K : PySem.W.Frag) (fd : FuncData) (sp : Sp), K.In h ∧ (∀ (s : Shared) (u : Value), BindsTo s fd ⟨[u], []⟩ [(x, u)]) ∧
        (∀ (H : Hp) (a : Addr) (ns : List Int), ns.length ≤ n → Only H → SqL K H a (ns.map V.int) → sp [.ref a] H (fun v _ => v = .bl true) fun _ _ _ => False) ∧
        ∀ base : Heap, K.In base → base.Ns mainGlobals mg → FnOk l.prog w K mg base (c w) k fa fd [x] sp)
    (hc : ∀ (w : World) (H : Hp) (s : Shared) (e : Value) (s' : Shared), c w [] H s (fun _ _ _ => False) e s' → False) :
    PySem.W.WalkO q loose XP YP l.row.toRowW d [] (fun f vs => PySem.call f vs) := by
  refine Att.attach_call h1 h3 fun w s₀ s₁ mg mb fa o pm cd doc a vs ns B Y ho hd hcd hmg hobj hints hlen hg => ?_
  obtain ⟨K, fd, sp, hK, hB, hS, hF⟩ := F w mg fa _ Y B.T.g hmg
  exact law_call hK B.T.g B.T.b B.T.builtins B.T.nolimit hg hobj hints (Nat.le_trans hlen h2) h4 hF hB (fun H o r => hS H a ns hlen o r) fun H e s' => hc w H s₁ e s'
theorem cx_none {P : Program} {w : World} {H : Hp} {s : Shared} {e : Value} {s' : Shared} (z : L2.CX P w [] H s (fun _ _ _ => False) e s') : False := by
  obtain ⟨_, _, _, _, _, _, _, _, _, _, _, _, q⟩ := z
  exact q
end PG


set_option Elab.async false
set_option maxRecDepth 100000
set_option linter.unusedVariables false
/-! PgW0: what holds behind a small text: rules by which it is read. -/
namespace PG
open PySem L2
structure Po where
  nx : En → Hm → Prop
  bk : En → Hm → Prop
  ct : En → Hm → Prop
  rt : PV → Hm → Prop
  xc : XV → Hm → Prop
def negOf : PV → Option PV
  | .int i => some (.int (-i))
  | _ => none
def blOf : PV → Option Bool
  | .bl b => some b
  | _ => none
def stOf : PV → Option Str
  | .str a => some a
  | _ => none
def lsOf : PV → Option (List PV)
  | .lst a => some a
  | _ => none
def inOf : PV → Option Int
  | .int b => some b
  | _ => none
def frzE (env : En) (i : Nat) : Option Sl → En
  | some (.own xs) => env.set i (.val (.lst xs))
  | _ => env
/-! ### slots -/
theorem slGet_v {v : PV} {l : En} : slGet (.val v :: l) 0 = some v := rfl
theorem slGet_o {v : List PV} {l : En} : slGet (.own v :: l) 0 = some (.bor v) := rfl
theorem slGet_d {v : List (Key × PV)} {l : En} : slGet (.ownd v :: l) 0 = some (.bod v) := rfl
theorem slGet_n {l : En} : slGet (.no :: l) 0 = none := rfl
theorem slGet_s {s : Sl} {l : En} {n : Nat} : slGet (s :: l) (n + 1) = slGet l n := by simp only [slGet, List.getElem?_cons_succ]
theorem ptSet_z {s : Sl} {l : En} {v : PV} : ptSet (s :: l) (.nm 0) v = if v.nb = true then some (.val v :: l) else none := by simp [ptSet]
theorem ptSet_s {s : Sl} {l : En} {v : PV} {n : Nat} : ptSet (s :: l) (.nm (n + 1)) v = (ptSet l (.nm n) v).map (s :: ·) := by
  simp only [ptSet, List.length_cons, Nat.add_lt_add_iff_right, List.set_cons_succ]
  split <;> rfl
theorem ptSet_t {env : En} {is : List Nat} {xs : List PV} : ptSet env (.tp is) (.tup xs) = tpSet env is xs := rfl
theorem tpSet_n {env : En} : tpSet env [] [] = some env := rfl
theorem tpSet_c {env : En} {i : Nat} {is : List Nat} {x : PV} {xs : List PV} : tpSet env (i :: is) (x :: xs) = if i < env.length then tpSet (env.set i (.val x)) is xs else none := rfl

/-! ### values -/
theorem nb_non : PV.nb .non = true := rfl
theorem nb_bl {b : Bool} : PV.nb (.bl b) = true := rfl
theorem nb_int {i : Int} : PV.nb (.int i) = true := rfl
theorem nb_str {i : Str} : PV.nb (.str i) = true := rfl
theorem nb_tup {i : List PV} : PV.nb (.tup i) = true := rfl
theorem nb_lst {i : List PV} : PV.nb (.lst i) = true := rfl
theorem nb_ref {i : Nat} : PV.nb (.ref i) = true := rfl
theorem nb_scr {i : List PV} : PV.nb (.scr i) = true := rfl
theorem nb_bor {i : List PV} : PV.nb (.bor i) = false := rfl
section
variable {h : Hm}
theorem bOp_addI {a b : Int} : bOp h .add (.int a) (.int b) = some (.int (a + b)) := rfl
theorem bOp_subI {a b : Int} : bOp h .sub (.int a) (.int b) = some (.int (a - b)) := rfl
theorem bOp_mulI {a b : Int} : bOp h .mul (.int a) (.int b) = if mulOk a b = true then some (.int (a * b)) else none := rfl
theorem bOp_fdivI {a b : Int} : bOp h .fdiv (.int a) (.int b) = if 0 < b ∧ b < 1073741824 then some (.int (a / b)) else none := rfl
theorem bOp_modI {a b : Int} : bOp h .mod (.int a) (.int b) = if 0 < b then some (.int (a % b)) else none := rfl
theorem bOp_powI {a b : Int} : bOp h .pow (.int a) (.int b) = if 0 ≤ b ∧ b ≤ 1000000 ∧ a.natAbs < 2 ^ 64 then some (.int (a ^ b.toNat)) else none := rfl
theorem bOp_addS {a b : Str} : bOp h .add (.str a) (.str b) = fit (a.length + b.length) (.str (a ++ b)) := rfl
theorem bOp_mulS {a : Str} {n : Int} : bOp h .mul (.str a) (.int n) = if -(2 ^ 63) ≤ n ∧ n < 2 ^ 63 then fit (a.length * n.toNat) (.str (strRep a n.toNat)) else none := rfl
theorem bOp_addL {a b : List PV} : bOp h .add (.lst a) (.lst b) = fit (a.length + b.length) (.lst (a ++ b)) := rfl
theorem bOp_addBL {a b : List PV} : bOp h .add (.bor a) (.lst b) = fit (a.length + b.length) (.lst (a ++ b)) := rfl
theorem bOp_addLB {a b : List PV} : bOp h .add (.lst a) (.bor b) = fit (a.length + b.length) (.lst (a ++ b)) := rfl
theorem fit_of {α : Type} {n : Nat} {a : α} (e : n ≤ sizeLine) : fit n a = some a := by simp [fit, e]
theorem cOp_ltI {a b : Int} : cOp h .lt (.int a) (.int b) = some (decide (a < b)) := rfl
theorem cOp_leI {a b : Int} : cOp h .le (.int a) (.int b) = some (decide (a ≤ b)) := rfl
theorem cOp_gtI {a b : Int} : cOp h .gt (.int a) (.int b) = some (decide (b < a)) := rfl
theorem cOp_geI {a b : Int} : cOp h .ge (.int a) (.int b) = some (decide (b ≤ a)) := rfl
theorem cOp_eqI {a b : Int} : cOp h .eq (.int a) (.int b) = some (decide (a = b)) := rfl
theorem cOp_neI {a b : Int} : cOp h .ne (.int a) (.int b) = some (!decide (a = b)) := rfl
theorem cOp_eqS {a b : Str} : cOp h .eq (.str a) (.str b) = some (decide (a = b)) := rfl
theorem cOp_neS {a b : Str} : cOp h .ne (.str a) (.str b) = some (!decide (a = b)) := rfl
theorem cOp_eqB {a b : Bool} : cOp h .eq (.bl a) (.bl b) = some (decide (a = b)) := rfl
theorem cOp_ltS {a b : Str} : cOp h .lt (.str a) (.str b) = some (decide (a.cps.toList < b.cps.toList)) := rfl
theorem cOp_leS {a b : Str} : cOp h .le (.str a) (.str b) = some (!decide (b.cps.toList < a.cps.toList)) := rfl
theorem cOp_isN : cOp h .is .non .non = some true := rfl
theorem cOp_isI {a : Int} : cOp h .is (.int a) .non = some false := rfl
theorem cOp_isB {a : Bool} : cOp h .is (.bl a) .non = some false := rfl
theorem cOp_isS {a : Str} : cOp h .is (.str a) .non = some false := rfl
theorem cOp_isT {a : List PV} : cOp h .is (.tup a) .non = some false := rfl
theorem cOp_isL {a : List PV} : cOp h .is (.lst a) .non = some false := rfl
theorem cOp_isnotN : cOp h .isnot .non .non = some false := rfl
theorem cOp_isnotI {a : Int} : cOp h .isnot (.int a) .non = some true := rfl
theorem cOp_isnotB {a : Bool} : cOp h .isnot (.bl a) .non = some true := rfl
theorem cOp_isnotS {a : Str} : cOp h .isnot (.str a) .non = some true := rfl
theorem cOp_isnotT {a : List PV} : cOp h .isnot (.tup a) .non = some true := rfl
theorem cOp_isnotL {a : List PV} : cOp h .isnot (.lst a) .non = some true := rfl
theorem truth_non : truth h .non = some false := rfl
theorem truth_bl {b : Bool} : truth h (.bl b) = some b := rfl
theorem truth_int {i : Int} : truth h (.int i) = some (i != 0) := rfl
theorem truth_str {s : Str} : truth h (.str s) = some ((s.length : Int) != 0) := rfl
theorem truth_lst {s : List PV} : truth h (.lst s) = some (!s.isEmpty) := rfl
theorem truth_tup {s : List PV} : truth h (.tup s) = some (!s.isEmpty) := rfl
theorem truth_bor {s : List PV} : truth h (.bor s) = some (!s.isEmpty) := rfl
theorem cIdx_lst {xs : List PV} {i : Int} : cIdx h (.lst xs) (.int i) = atI xs i := rfl
theorem cIdx_bor {xs : List PV} {i : Int} : cIdx h (.bor xs) (.int i) = atI xs i := rfl
theorem cIdx_tup {xs : List PV} {i : Int} : cIdx h (.tup xs) (.int i) = atI xs i := rfl
theorem cIdx_str {xs : Str} {i : Int} : cIdx h (.str xs) (.int i) = (atI xs.cps.toList i).map fun c => .str ⟨#[c]⟩ := rfl
theorem cIdx_ref {xs : List PV} {i : Int} {n : Nat} (e : h[n]? = some (.lst xs)) : cIdx h (.ref n) (.int i) = atI xs i := by
  show (match asSeq h (.ref n) with
    | some xs => atI xs i
    | none => none) = _
  simp only [asSeq, asLst, e]
theorem len_lst {xs : List PV} : cBl h .len [.lst xs] = some (.int xs.length) := rfl
theorem len_bor {xs : List PV} : cBl h .len [.bor xs] = some (.int xs.length) := rfl
theorem len_tup {xs : List PV} : cBl h .len [.tup xs] = some (.int xs.length) := rfl
theorem len_str {xs : Str} : cBl h .len [.str xs] = some (.int xs.length) := rfl
theorem len_ref {xs : List PV} {n : Nat} (e : h[n]? = some (.lst xs)) : cBl h .len [.ref n] = some (.int xs.length) := by
  show (asSeq h (.ref n)).map (fun xs => PV.int xs.length) = _
  simp only [asSeq, asLst, e, Option.map_some]
theorem int_int {i : Int} : cBl h .int1 [.int i] = some (.int i) := rfl
theorem min2_int {i j : Int} : cBl h .min2 [.int i, .int j] = some (.int (if j < i then j else i)) := rfl
theorem max2_int {i j : Int} : cBl h .max2 [.int i, .int j] = some (.int (if j > i then j else i)) := rfl
theorem min3_int {a b c : Int} : cBl h .min3 [.int a, .int b, .int c] = some (.int (if b < a then (if c < b then c else b) else (if c < a then c else a))) := rfl
theorem tup1_lst {xs : List PV} : cBl h .tup1 [.lst xs] = some (.tup xs) := rfl
theorem tup1_bor {xs : List PV} : cBl h .tup1 [.bor xs] = some (.tup xs) := rfl
theorem tup1_tup {xs : List PV} : cBl h .tup1 [.tup xs] = some (.tup xs) := rfl
def tyTab (t n : String) : Bool := isTy t n
theorem isi_of {u : PV} {n t : String} (h1 : tyOf h u = some t) (h2 : tyKnown.contains n = true) : cBl h .isi [u, .ty n] = some (.bl (isTy t n)) := by
  show blIsi2 h u (.ty n) = _
  simp only [blIsi2, h1, h2, if_true]
theorem ty_int : tyKnown.contains "int" = true := by decide +kernel
theorem ty_bool : tyKnown.contains "bool" = true := by decide +kernel
theorem ty_str : tyKnown.contains "str" = true := by decide +kernel
theorem ty_tuple : tyKnown.contains "tuple" = true := by decide +kernel
theorem ty_list : tyKnown.contains "list" = true := by decide +kernel
theorem isi_non_int  : cBl h .isi [.non, .ty "int"] = some (.bl false) := isi_of (t := "NoneType") rfl ty_int
theorem isi_non_bool  : cBl h .isi [.non, .ty "bool"] = some (.bl false) := isi_of (t := "NoneType") rfl ty_bool
theorem isi_non_str  : cBl h .isi [.non, .ty "str"] = some (.bl false) := isi_of (t := "NoneType") rfl ty_str
theorem isi_non_tuple  : cBl h .isi [.non, .ty "tuple"] = some (.bl false) := isi_of (t := "NoneType") rfl ty_tuple
theorem isi_non_list  : cBl h .isi [.non, .ty "list"] = some (.bl false) := isi_of (t := "NoneType") rfl ty_list
theorem isi_bl_int {b : Bool} : cBl h .isi [.bl b, .ty "int"] = some (.bl true) := isi_of (t := "bool") rfl ty_int
theorem isi_bl_bool {b : Bool} : cBl h .isi [.bl b, .ty "bool"] = some (.bl true) := isi_of (t := "bool") rfl ty_bool
theorem isi_bl_str {b : Bool} : cBl h .isi [.bl b, .ty "str"] = some (.bl false) := isi_of (t := "bool") rfl ty_str
theorem isi_bl_tuple {b : Bool} : cBl h .isi [.bl b, .ty "tuple"] = some (.bl false) := isi_of (t := "bool") rfl ty_tuple
theorem isi_bl_list {b : Bool} : cBl h .isi [.bl b, .ty "list"] = some (.bl false) := isi_of (t := "bool") rfl ty_list
theorem isi_int_int {b : Int} : cBl h .isi [.int b, .ty "int"] = some (.bl true) := isi_of (t := "int") rfl ty_int
theorem isi_int_bool {b : Int} : cBl h .isi [.int b, .ty "bool"] = some (.bl false) := isi_of (t := "int") rfl ty_bool
theorem isi_int_str {b : Int} : cBl h .isi [.int b, .ty "str"] = some (.bl false) := isi_of (t := "int") rfl ty_str
theorem isi_int_tuple {b : Int} : cBl h .isi [.int b, .ty "tuple"] = some (.bl false) := isi_of (t := "int") rfl ty_tuple
theorem isi_int_list {b : Int} : cBl h .isi [.int b, .ty "list"] = some (.bl false) := isi_of (t := "int") rfl ty_list
theorem isi_str_int {b : Str} : cBl h .isi [.str b, .ty "int"] = some (.bl false) := isi_of (t := "str") rfl ty_int
theorem isi_str_bool {b : Str} : cBl h .isi [.str b, .ty "bool"] = some (.bl false) := isi_of (t := "str") rfl ty_bool
theorem isi_str_str {b : Str} : cBl h .isi [.str b, .ty "str"] = some (.bl true) := isi_of (t := "str") rfl ty_str
theorem isi_str_tuple {b : Str} : cBl h .isi [.str b, .ty "tuple"] = some (.bl false) := isi_of (t := "str") rfl ty_tuple
theorem isi_str_list {b : Str} : cBl h .isi [.str b, .ty "list"] = some (.bl false) := isi_of (t := "str") rfl ty_list
theorem isi_tup_int {b : List PV} : cBl h .isi [.tup b, .ty "int"] = some (.bl false) := isi_of (t := "tuple") rfl ty_int
theorem isi_tup_bool {b : List PV} : cBl h .isi [.tup b, .ty "bool"] = some (.bl false) := isi_of (t := "tuple") rfl ty_bool
theorem isi_tup_str {b : List PV} : cBl h .isi [.tup b, .ty "str"] = some (.bl false) := isi_of (t := "tuple") rfl ty_str
theorem isi_tup_tuple {b : List PV} : cBl h .isi [.tup b, .ty "tuple"] = some (.bl true) := isi_of (t := "tuple") rfl ty_tuple
theorem isi_tup_list {b : List PV} : cBl h .isi [.tup b, .ty "list"] = some (.bl false) := isi_of (t := "tuple") rfl ty_list
theorem isi_lst_int {b : List PV} : cBl h .isi [.lst b, .ty "int"] = some (.bl false) := isi_of (t := "list") rfl ty_int
theorem isi_lst_bool {b : List PV} : cBl h .isi [.lst b, .ty "bool"] = some (.bl false) := isi_of (t := "list") rfl ty_bool
theorem isi_lst_str {b : List PV} : cBl h .isi [.lst b, .ty "str"] = some (.bl false) := isi_of (t := "list") rfl ty_str
theorem isi_lst_tuple {b : List PV} : cBl h .isi [.lst b, .ty "tuple"] = some (.bl false) := isi_of (t := "list") rfl ty_tuple
theorem isi_lst_list {b : List PV} : cBl h .isi [.lst b, .ty "list"] = some (.bl true) := isi_of (t := "list") rfl ty_list
theorem isi_bor_int {b : List PV} : cBl h .isi [.bor b, .ty "int"] = some (.bl false) := isi_of (t := "list") rfl ty_int
theorem isi_bor_bool {b : List PV} : cBl h .isi [.bor b, .ty "bool"] = some (.bl false) := isi_of (t := "list") rfl ty_bool
theorem isi_bor_str {b : List PV} : cBl h .isi [.bor b, .ty "str"] = some (.bl false) := isi_of (t := "list") rfl ty_str
theorem isi_bor_tuple {b : List PV} : cBl h .isi [.bor b, .ty "tuple"] = some (.bl false) := isi_of (t := "list") rfl ty_tuple
theorem isi_bor_list {b : List PV} : cBl h .isi [.bor b, .ty "list"] = some (.bl true) := isi_of (t := "list") rfl ty_list
end
namespace W0

def RP {α : Type} (r : Rs α) (Q : α → Hm → Prop) (E : XV → Hm → Prop) : Prop :=
  match r with
  | none => False
  | some (.ok a, h) => Q a h
  | some (.exc x, h) => E x h
def OP {α : Type} (o : Option α) (Q : α → Prop) : Prop :=
  match o with
  | none => False
  | some a => Q a
def SP (r : Rt) (P : Po) : Prop :=
  match r with
  | none => False
  | some (.nx, e, h) => P.nx e h
  | some (.bk, e, h) => P.bk e h
  | some (.ct, e, h) => P.ct e h
  | some (.rt v, _, h) => P.rt v h
  | some (.xc x, _, h) => P.xc x h

section
variable {α β : Type} {Q : α → Hm → Prop} {E : XV → Hm → Prop} {P : Po}
theorem RP_bind {r : Rs β} {f : β → Hm → Rs α} : RP (bindR r f) Q E = RP r (fun a h => RP (f a h) Q E) E := by
  rcases r with _ | ⟨a | x, h⟩ <;> rfl
theorem RP_okR {a : α} {h : Hm} : RP (okR a h) Q E = Q a h := rfl
theorem RP_ok {a : α} {h : Hm} : RP (some (.ok a, h)) Q E = Q a h := rfl
theorem RP_exc {x : XV} {h : Hm} : RP (some (.exc x, h)) Q E = E x h := rfl
theorem RP_none : RP none Q E = False := rfl
theorem RP_lift {o : Option α} {h : Hm} : RP (liftR o h) Q E = OP o fun a => Q a h := by cases o <;> rfl
theorem RP_ite {c : Prop} [Decidable c] {a b : Rs α} : RP (if c then a else b) Q E = ((c → RP a Q E) ∧ (¬ c → RP b Q E)) := by
  by_cases h : c <;> simp [h]
theorem OP_some {a : α} {q : α → Prop} : OP (some a) q = q a := rfl
theorem OP_none {q : α → Prop} : OP (none : Option α) q = False := rfl
theorem OP_map {f : β → α} {o : Option β} {q : α → Prop} : OP (o.map f) q = OP o fun b => q (f b) := by cases o <;> rfl
theorem OP_ite {c : Prop} [Decidable c] {a b : Option α} {q : α → Prop} : OP (if c then a else b) q = ((c → OP a q) ∧ (¬ c → OP b q)) := by
  by_cases h : c <;> simp [h]
theorem SP_seq {r : Rt} {k : En → Hm → Rt} : SP (seqS r k) P = SP r { P with nx := fun e h => SP (k e h) P } := by
  rcases r with _ | ⟨f, e, h⟩
  · rfl
  · cases f <;> rfl
theorem SP_bind {r : Rs β} {env : En} {f : β → Hm → Rt} : SP (bindS r env f) P = RP r (fun a h => SP (f a h) P) P.xc := by
  rcases r with _ | ⟨a | x, h⟩ <;> rfl
theorem SP_nx {e : En} {h : Hm} : SP (some (.nx, e, h)) P = P.nx e h := rfl
theorem SP_bk {e : En} {h : Hm} : SP (some (.bk, e, h)) P = P.bk e h := rfl
theorem SP_ct {e : En} {h : Hm} : SP (some (.ct, e, h)) P = P.ct e h := rfl
theorem SP_rt {v : PV} {e : En} {h : Hm} : SP (some (.rt v, e, h)) P = P.rt v h := rfl
theorem SP_none : SP none P = False := rfl
theorem SP_ite {c : Prop} [Decidable c] {a b : Rt} : SP (if c then a else b) P = ((c → SP a P) ∧ (¬ c → SP b P)) := by
  by_cases h : c <;> simp [h]
theorem RP.mono {r : Rs α} {Q Q' : α → Hm → Prop} {E E' : XV → Hm → Prop} (q : RP r Q E) (hQ : ∀ a h, Q a h → Q' a h) (hE : ∀ x h, E x h → E' x h) : RP r Q' E' := by
  rcases r with _ | ⟨a | x, h⟩
  · exact q
  · exact hQ _ _ q
  · exact hE _ _ q
theorem SP.mono {r : Rt} {P P' : Po} (q : SP r P) (h1 : ∀ e h, P.nx e h → P'.nx e h) (h2 : ∀ e h, P.bk e h → P'.bk e h) (h3 : ∀ e h, P.ct e h → P'.ct e h) (h4 : ∀ v h, P.rt v h → P'.rt v h) (h5 : ∀ x h, P.xc x h → P'.xc x h) : SP r P' := by
  rcases r with _ | ⟨f, e, h⟩
  · exact q
  · cases f
    · exact h1 _ _ q
    · exact h2 _ _ q
    · exact h3 _ _ q
    · exact h4 _ _ q
    · exact h5 _ _ q
theorem RP.ex {r : Rs α} {Q : α → Hm → Prop} (q : RP r Q fun _ _ => False) : ∃ a h, r = some (.ok a, h) ∧ Q a h := by
  rcases r with _ | ⟨a | x, h⟩
  · exact q.elim
  · exact ⟨a, h, rfl, q⟩
  · exact q.elim
theorem RP.of_eq {r : Rs α} {a : α} {h : Hm} (e : r = some (.ok a, h)) (q : Q a h) : RP r Q E := by rw [e]; exact q
/-- RP by the one answer -/
theorem RP_eq {r : Rs α} {a : α} {h : Hm} (e : r = some (.ok a, h)) : RP r Q E = Q a h := by rw [e]; rfl
end


theorem RP_if {α : Type} {Q : α → Hm → Prop} {E : XV → Hm → Prop} {c : Prop} [Decidable c] {a b : Rs α} : RP (if c then a else b) Q E = if c then RP a Q E else RP b Q E := by split <;> rfl
theorem OP_if {α : Type} {q : α → Prop} {c : Prop} [Decidable c] {a b : Option α} : OP (if c then a else b) q = if c then OP a q else OP b q := by split <;> rfl
theorem SP_if {P : Po} {c : Prop} [Decidable c] {a b : Rt} : SP (if c then a else b) P = if c then SP a P else SP b P := by split <;> rfl

def Ret (Q : PV → Hm → Prop) (E : XV → Hm → Prop) : Po := ⟨fun _ h => Q .non h, fun _ _ => False, fun _ _ => False, Q, E⟩
/-! ### the rules, construct by construct -/
section
variable {cf : Cf} {env : En} {h : Hm} {E : XV → Hm → Prop}
section
variable {Q : PV → Hm → Prop}
theorem w_var {i : Nat} : RP (evE cf (.var i) env h) Q E = OP (slGet env i) fun v => Q v h := by rw [evE, RP_lift]
theorem w_cst {c : PV} : RP (evE cf (.cst c) env h) Q E = Q c h := by rw [evE, RP_okR]
theorem w_glb {x : String} {c : PV} : RP (evE cf (.glb x c) env h) Q E = Q c h := by rw [evE, RP_okR]
theorem w_bty {x : String} : RP (evE cf (.bty x) env h) Q E = Q (.ty x) h := by rw [evE, RP_okR]
theorem w_tup {es : Es} : RP (evE cf (.tup es) env h) Q E = RP (evEs cf es env h) (fun vs h1 => if vs.all PV.nb = true ∧ vs.length ≤ sizeLine then Q (.tup vs) h1 else False) E := by simp only [evE, RP_bind, RP_if, RP_okR, RP_none]
theorem w_lst {l : L} : RP (evE cf (.lst l) env h) Q E = RP (evL cf l env h) (fun vs h1 => Q (.lst vs) h1) E := by simp only [evE, RP_bind, RP_okR]
theorem w_rf {l : L} : RP (evE cf (.rf l) env h) Q E = RP (evL cf l env h) (fun vs h1 => Q (.ref h1.length) (h1 ++ [.lst vs])) E := by simp only [evE, RP_bind, RP_okR]
theorem w_bin {op : Bo} {a b : PG.E} : RP (evE cf (.bin op a b) env h) Q E = RP (evE cf a env h) (fun u h1 => RP (evE cf b env h1) (fun v h2 => OP (bOp h2 op u v) fun w => Q w h2) E) E := by simp only [evE, RP_bind, RP_lift]
theorem w_neg {a : PG.E} : RP (evE cf (.neg a) env h) Q E = RP (evE cf a env h) (fun u h1 => OP (negOf u) fun w => Q w h1) E := by
  simp only [evE, RP_bind]
  congr 1
  funext u h1
  cases u <;> rfl
theorem w_cmp {op : Co} {a b : PG.E} : RP (evE cf (.cmp op a b) env h) Q E = RP (evE cf a env h) (fun u h1 => RP (evE cf b env h1) (fun v h2 => OP (cOp h2 op u v) fun w => Q (.bl w) h2) E) E := by simp only [evE, RP_bind, RP_lift, OP_map]
theorem w_chn {op op2 : Co} {a b c : PG.E} : RP (evE cf (.chn op op2 a b c) env h) Q E = RP (evE cf a env h) (fun u h1 => RP (evE cf b env h1) (fun v h2 => OP (cOp h2 op u v) fun k => if k = true then RP (evE cf c env h2) (fun w h3 => OP (cOp h3 op2 v w) fun z => Q (.bl z) h3) E else Q (.bl false) h2) E) E := by
  simp only [evE, RP_bind]
  congr 1
  funext u h1
  congr 1
  funext v h2
  rcases cOp h2 op u v with _ | ⟨_ | _⟩
  · rfl
  · rfl
  · simp only [RP_bind, RP_lift, OP_map, OP_some, if_true]
theorem w_not {t : T} : RP (evE cf (.not t) env h) Q E = RP (evT cf t env h) (fun b h1 => Q (.bl (!b)) h1) E := by simp only [evE, RP_bind, RP_okR]
theorem w_bop {k : Bool} {es : Es} : RP (evE cf (.bop k es) env h) Q E = RP (evB cf k es env h) Q E := by rw [evE]
theorem w_ife {t : T} {a b : PG.E} : RP (evE cf (.ife t a b) env h) Q E = RP (evT cf t env h) (fun k h1 => if k = true then RP (evE cf a env h1) Q E else RP (evE cf b env h1) Q E) E := by simp only [evE, RP_bind, RP_if]
theorem w_idx {a b : PG.E} : RP (evE cf (.idx a b) env h) Q E = RP (evE cf a env h) (fun u h1 => RP (evE cf b env h1) (fun v h2 => OP (cIdx h2 u v) fun w => Q w h2) E) E := by simp only [evE, RP_bind, RP_lift]
theorem w_slc {a : PG.E} {lo hi : Oe} : RP (evE cf (.slc a lo hi) env h) Q E = RP (evE cf a env h) (fun u h1 => RP (evO cf lo env h1) (fun l h2 => RP (evO cf hi env h2) (fun k h3 => OP (cSlc h3 u l k) fun w => Q w h3) E) E) E := by simp only [evE, RP_bind, RP_lift]
theorem w_call {f : String} {es : Es} : RP (evE cf (.call f es) env h) Q E = RP (evEs cf es env h) (fun vs h1 => if vs.all PV.nb = true then RP (cf f vs h1) Q E else False) E := by simp only [evE, RP_bind, RP_if, RP_none]
theorem w_blt {b : Bl} {es : Es} : RP (evE cf (.blt b es) env h) Q E = RP (evEs cf es env h) (fun vs h1 => OP (cBl h1 b vs) fun w => Q w h1) E := by simp only [evE, RP_bind, RP_lift]
theorem w_b1 {k : Bool} {e : PG.E} : RP (evB cf k (.cons e .nil) env h) Q E = RP (evE cf e env h) Q E := by rw [evB]
theorem w_b2 {k : Bool} {e e2 : PG.E} {r : Es} : RP (evB cf k (.cons e (.cons e2 r)) env h) Q E = RP (evE cf e env h) (fun v h1 => OP (blOf v) fun b => if b = k then RP (evB cf k (.cons e2 r) env h1) Q E else Q (.bl b) h1) E := by
  rw [evB, RP_bind]
  congr 1
  funext v h1
  cases v <;> first | rfl | skip
  simp only [blOf, OP_some, RP_if, RP_okR]
  intro z; cases z
end
section
variable {Q : Bool → Hm → Prop}
theorem w_tru {e : PG.E} : RP (evT cf (.tru e) env h) Q E = RP (evE cf e env h) (fun v h1 => OP (truth h1 v) fun b => Q b h1) E := by simp only [evT, RP_bind, RP_lift]
theorem w_tno {t : T} : RP (evT cf (.not t) env h) Q E = RP (evT cf t env h) (fun b h1 => Q (!b) h1) E := by simp only [evT, RP_bind, RP_okR]
theorem w_tbo {k : Bool} {ts : Ts} : RP (evT cf (.bop k ts) env h) Q E = RP (evTB cf k ts env h) Q E := by rw [evT]
theorem w_t1 {k : Bool} {e : T} : RP (evTB cf k (.cons e .nil) env h) Q E = RP (evT cf e env h) Q E := by rw [evTB]
theorem w_t2 {k : Bool} {e e2 : T} {r : Ts} : RP (evTB cf k (.cons e (.cons e2 r)) env h) Q E = RP (evT cf e env h) (fun b h1 => if b = k then RP (evTB cf k (.cons e2 r) env h1) Q E else Q b h1) E := by
  rw [evTB, RP_bind]
  · simp only [RP_if, RP_okR]
  intro z; cases z
theorem w_c0 : RP (evC cf .no env h) Q E = Q true h := by rw [evC, RP_okR]
theorem w_c1 {t : T} : RP (evC cf (.so t) env h) Q E = RP (evT cf t env h) Q E := by rw [evC]
end
section
variable {Q : Option Int → Hm → Prop}
theorem w_o0 : RP (evO cf .no env h) Q E = Q none h := by rw [evO, RP_okR]
theorem w_o1 {e : PG.E} : RP (evO cf (.so e) env h) Q E = RP (evE cf e env h) (fun v h1 => OP (inOf v) fun i => Q (some i) h1) E := by
  rw [evO, RP_bind]
  congr 1
  funext v h1
  cases v <;> rfl
end
section
variable {Q : List PV → Hm → Prop}
theorem w_e0 : RP (evEs cf .nil env h) Q E = Q [] h := by rw [evEs, RP_okR]
theorem w_e1 {e : PG.E} {r : Es} : RP (evEs cf (.cons e r) env h) Q E = RP (evE cf e env h) (fun v h1 => RP (evEs cf r env h1) (fun vs h2 => Q (v :: vs) h2) E) E := by simp only [evEs, RP_bind, RP_okR]
theorem w_dsp {es : Es} : RP (evL cf (.dsp es) env h) Q E = RP (evEs cf es env h) (fun vs h1 => if vs.all PV.nb = true ∧ vs.length ≤ sizeLine then Q vs h1 else False) E := by simp only [evL, RP_bind, RP_if, RP_okR, RP_none]
theorem w_lc {p : Pt} {it : Iv} {c : Ot} {e : PG.E} : RP (evL cf (.cmp p it c e) env h) Q E = RP (evI cf it env h) (fun xs h1 => RP (noX (lcLoop (wipeE env (ptSlots p)) p (evC cf c) (evE cf e) xs h1 [])) Q E) E := by simp only [evL, RP_bind]
theorem w_lof {e : PG.E} : RP (evL cf (.lof e) env h) Q E = RP (evE cf e env h) (fun v h1 => OP (asSeq h1 v) fun xs => Q xs h1) E := by simp only [evL, RP_bind, RP_lift]
theorem w_lrg {e : PG.E} : RP (evL cf (.lrg e) env h) Q E = RP (evE cf e env h) (fun v h1 => OP (inOf v) fun n => if n ≤ 16777216 ∧ 0 ≤ n then Q ((List.range n.toNat).map fun (k : Nat) => .int k) h1 else False) E := by
  rw [evL, RP_bind]
  congr 1
  funext v h1
  cases v <;> first | rfl | skip
  simp only [inOf, OP_some, RP_if, RP_okR, RP_none]
theorem w_ival {e : PG.E} : RP (evI cf (.val e) env h) Q E = RP (evE cf e env h) (fun v h1 => OP (itVal v) fun xs => Q xs h1) E := by simp only [evI, RP_bind, RP_lift]
theorem w_rg1 {e : PG.E} : RP (evI cf (.rg1 e) env h) Q E = RP (evE cf e env h) (fun v h1 => OP (inOf v) fun n => OP (rgItems 0 n) fun xs => Q xs h1) E := by
  rw [evI, RP_bind]
  congr 1
  funext v h1
  cases v <;> first | rfl | skip
  simp only [inOf, OP_some, RP_lift]
theorem w_rg2 {a b : PG.E} : RP (evI cf (.rg2 a b) env h) Q E = RP (evE cf a env h) (fun u h1 => RP (evE cf b env h1) (fun v h2 => OP (inOf u) fun m => OP (inOf v) fun n => OP (rgItems m n) fun xs => Q xs h2) E) E := by
  rw [evI, RP_bind]
  congr 1
  funext u h1
  rw [RP_bind]
  congr 1
  funext v h2
  cases u <;> first | rfl | skip
  cases v <;> first | rfl | skip
  simp only [inOf, OP_some, RP_lift]
end
section
variable {P : Po}
theorem w_nil : SP (evSs cf .nil env h) P = P.nx env h := by rw [evSs, SP_nx]
theorem w_cons {s : S} {r : Ss} : SP (evSs cf (.cons s r) env h) P = SP (evS cf s env h) ⟨fun e h => SP (evSs cf r e h) P, P.bk, P.ct, P.rt, P.xc⟩ := by rw [evSs, SP_seq]
theorem w_asg {p : Pt} {e : PG.E} : SP (evS cf (.asg p e) env h) P = RP (evE cf e env h) (fun v h1 => OP (ptSet env p v) fun env' => P.nx env' h1) P.xc := by
  simp only [evS, SP_bind]
  congr 1
  funext v h1
  rcases ptSet env p v with _ | z <;> rfl
theorem w_own {i : Nat} {l : L} : SP (evS cf (.own i l) env h) P = RP (evL cf l env h) (fun xs h1 => if i < env.length then P.nx (env.set i (.own xs)) h1 else False) P.xc := by simp only [evS, SP_bind, SP_if, SP_nx, SP_none]
theorem w_exp {e : PG.E} : SP (evS cf (.exp e) env h) P = RP (evE cf e env h) (fun _ h1 => P.nx env h1) P.xc := by simp only [evS, SP_bind, SP_nx]
theorem w_ret {e : PG.E} : SP (evS cf (.ret e) env h) P = RP (evE cf e env h) (fun v h1 => if v.nb = true then P.rt v h1 else False) P.xc := by simp only [evS, SP_bind, SP_if, SP_rt, SP_none]
theorem w_retN : SP (evS cf .retN env h) P = P.rt .non h := by rw [evS, SP_rt]
theorem w_if {c : T} {a b : Ss} : SP (evS cf (.ife c a b) env h) P = RP (evT cf c env h) (fun k h1 => if k = true then SP (evSs cf a env h1) P else SP (evSs cf b env h1) P) P.xc := by simp only [evS, SP_bind, SP_if]
theorem w_whl {c : T} {b : Ss} : SP (evS cf (.whl c b) env h) P = SP (whl (evT cf c) (evSs cf b) fuel env h) P := by rw [evS]
theorem w_for {p : Pt} {it : Iv} {b : Ss} : SP (evS cf (.fr p it b) env h) P = RP (evI cf it env h) (fun xs h1 => SP (forL p (evSs cf b) xs env h1) P) P.xc := by simp only [evS, SP_bind]
theorem w_brk : SP (evS cf .brk env h) P = P.bk env h := by rw [evS, SP_bk]
theorem w_cnt : SP (evS cf .cnt env h) P = P.ct env h := by rw [evS, SP_ct]
theorem w_pass : SP (evS cf .pass env h) P = P.nx env h := by rw [evS, SP_nx]
theorem w_nev : SP (evS cf .never env h) P = False := by rw [evS, SP_none]
theorem w_frz {i : Nat} : SP (evS cf (.frz i) env h) P = P.nx (frzE env i env[i]?) h := by
  rw [evS]
  rcases env[i]? with _ | ⟨_ | _ | _ | _⟩ <;> rfl
def appE (cf : Cf) (e : PG.E) (env : En) (h : Hm) (i : Nat) (P : Po) : Option Sl → Prop
  | some (.own xs) => RP (evE cf e env h) (fun v h1 => if v.nb = true ∧ xs.length < sizeLine then P.nx (env.set i (.own (xs ++ [v]))) h1 else False) P.xc
  | some (.val u) => OP (isCell h u) fun n => RP (evE cf e env h) (fun v h1 => SP (refApp env h1 v n) P) P.xc
  | _ => False
theorem w_appV {i : Nat} {e : PG.E} : SP (evS cf (.appV i e) env h) P = appE cf e env h i P env[i]? := by
  rw [evS]
  rcases env[i]? with _ | ⟨_ | u | xs | _⟩
  · rfl
  · rfl
  · dsimp only [appE]
    rcases isCell h u with _ | n
    · rfl
    · dsimp only
      rw [SP_bind]; rfl
  · dsimp only [appE]
    simp only [SP_bind, SP_if, SP_nx, SP_none]
  · rfl
theorem w_app {t e : PG.E} : SP (evS cf (.app t e) env h) P = RP (evE cf t env h) (fun u h1 => OP (isCell h1 u) fun n => RP (evE cf e env h1) (fun v h2 => SP (refApp env h2 v n) P) P.xc) P.xc := by
  simp only [evS, SP_bind]
  congr 1
  funext u h1
  rcases isCell h1 u with _ | n
  · rfl
  · dsimp only
    rw [SP_bind]; rfl
def setE (cf : Cf) (k : PG.E) (env : En) (h : Hm) (i : Nat) (v : PV) (P : Po) : Option Sl → Prop
  | some (.own xs) => RP (evE cf k env h) (fun w h2 => SP (ownSet env h2 i xs w v) P) P.xc
  | some (.val u) => RP (evE cf k env h) (fun w h2 => SP (refSet env h2 u w v) P) P.xc
  | _ => False
theorem w_setV {i : Nat} {k e : PG.E} : SP (evS cf (.setV i k e) env h) P = RP (evE cf e env h) (fun v h1 => setE cf k env h1 i v P env[i]?) P.xc := by
  simp only [evS, SP_bind]
  congr 1
  funext v h1
  rcases env[i]? with _ | ⟨_ | u | xs | _⟩
  · rfl
  · rfl
  · dsimp only [setE]; rw [SP_bind]
  · dsimp only [setE]; rw [SP_bind]
  · rfl
theorem w_setI {t k e : PG.E} : SP (evS cf (.setI t k e) env h) P = RP (evE cf e env h) (fun v h1 => RP (evE cf t env h1) (fun u h2 => RP (evE cf k env h2) (fun w h3 => SP (refSet env h3 u w v) P) P.xc) P.xc) P.xc := by simp only [evS, SP_bind]
theorem frz_o {xs : List PV} {i : Nat} : frzE env i (some (.own xs)) = env.set i (.val (.lst xs)) := rfl
theorem frz_v {v : PV} {i : Nat} : frzE env i (some (.val v)) = env := rfl
theorem frz_n {i : Nat} : frzE env i (some .no) = env := rfl
theorem app_o {e : PG.E} {xs : List PV} {i : Nat} : appE cf e env h i P (some (.own xs)) = RP (evE cf e env h) (fun v h1 => if v.nb = true ∧ xs.length < sizeLine then P.nx (env.set i (.own (xs ++ [v]))) h1 else False) P.xc := rfl
theorem app_v {e : PG.E} {u : PV} {i : Nat} : appE cf e env h i P (some (.val u)) = OP (isCell h u) fun n => RP (evE cf e env h) (fun v h1 => SP (refApp env h1 v n) P) P.xc := rfl
theorem set_o {k : PG.E} {xs : List PV} {i : Nat} {v : PV} : setE cf k env h i v P (some (.own xs)) = RP (evE cf k env h) (fun w h2 => SP (ownSet env h2 i xs w v) P) P.xc := rfl
theorem set_v {k : PG.E} {u v : PV} {i : Nat} : setE cf k env h i v P (some (.val u)) = RP (evE cf k env h) (fun w h2 => SP (refSet env h2 u w v) P) P.xc := rfl
theorem ownSet_i {i : Nat} {xs : List PV} {k : Int} {v : PV} : SP (ownSet env h i xs (.int k) v) P = OP (ixN xs.length k) fun n => if v.nb = true then P.nx (env.set i (.own (xs.set n v))) h else False := by
  unfold ownSet
  dsimp only
  rcases ixN xs.length k with _ | n
  · rfl
  · simp only [SP_if, SP_nx, SP_none, OP_some]
theorem refSet_i {n : Nat} {xs : List PV} {k : Int} {v : PV} (e : h[n]? = some (.lst xs)) : SP (refSet env h (.ref n) (.int k) v) P = OP (ixN xs.length k) fun m => if v.nb = true then P.nx env (h.set n (.lst (xs.set m v))) else False := by
  unfold refSet
  simp only [e]
  rcases ixN xs.length k with _ | n
  · rfl
  · simp only [SP_if, SP_nx, SP_none, OP_some]
theorem refApp_i {n : Nat} {xs : List PV} {v : PV} (e : h[n]? = some (.lst xs)) : SP (refApp env h v n) P = if v.nb = true ∧ xs.length < sizeLine then P.nx env (h.set n (.lst (xs ++ [v]))) else False := by
  unfold refApp
  simp only [e, SP_if, SP_nx, SP_none]
theorem isCell_i {n : Nat} {xs : List PV} (e : h[n]? = some (.lst xs)) : isCell h (.ref n) = some n := by
  unfold isCell
  simp only [e]
theorem negOf_i {i : Int} : negOf (.int i) = some (.int (-i)) := rfl
theorem blOf_b {b : Bool} : blOf (.bl b) = some b := rfl
theorem inOf_i {i : Int} : inOf (.int i) = some i := rfl
theorem itVal_l {xs : List PV} : itVal (.lst xs) = some xs := rfl
theorem itVal_c {xs : List PV} : itVal (.scr xs) = some xs := rfl
theorem itVal_t {xs : List PV} : itVal (.tup xs) = some xs := rfl
theorem itVal_s {s : Str} : itVal (.str s) = some (s.cps.toList.map fun c => .str ⟨#[c]⟩) := rfl
theorem asSeq_l {xs : List PV} : asSeq h (.lst xs) = some xs := rfl
theorem asSeq_b {xs : List PV} : asSeq h (.bor xs) = some xs := rfl
theorem asSeq_t {xs : List PV} : asSeq h (.tup xs) = some xs := rfl
theorem slc_s {s : Str} {lo hi : Option Int} : cSlc h (.str s) lo hi = some (.str (cutSt s lo hi)) := rfl
theorem slc_l {s : List PV} {lo hi : Option Int} : cSlc h (.lst s) lo hi = some (.lst (cutP s lo hi)) := rfl
theorem slc_b {s : List PV} {lo hi : Option Int} : cSlc h (.bor s) lo hi = some (.lst (cutP s lo hi)) := rfl
theorem slc_c {s : List PV} {lo hi : Option Int} : cSlc h (.scr s) lo hi = some (.lst (cutP s lo hi)) := rfl
theorem slc_t {s : List PV} {lo hi : Option Int} : cSlc h (.tup s) lo hi = some (.tup (cutP s lo hi)) := rfl
theorem Ret_nx {Q : PV → Hm → Prop} : (Ret Q E).nx env h = Q .non h := rfl
theorem Ret_rt {Q : PV → Hm → Prop} {v : PV} : (Ret Q E).rt v h = Q v h := rfl
theorem Ret_bk {Q : PV → Hm → Prop} : (Ret Q E).bk env h = False := rfl
theorem Ret_ct {Q : PV → Hm → Prop} : (Ret Q E).ct env h = False := rfl
theorem Ret_xc {Q : PV → Hm → Prop} {x : XV} : (Ret Q E).xc x h = E x h := rfl
end
end
/-- a def's call is its body -/
theorem call_eq {T : Tb} {k : Nat} {x : String} {d : FnDef} (e : T x = some d) (as : List PV) (h : Hm) : callF T (k + 1) x as h = runB (callF T k) d as h := by
  show (match T x with
    | none => none
    | some d => runB (callF T k) d as h) = _
  rw [e]
theorem RP_run {cf : Cf} {d : FnDef} {as : List PV} {h : Hm} {Q : PV → Hm → Prop} {E : XV → Hm → Prop} (h1 : as.length = d.np) (h2 : d.np ≤ d.ns) :
    RP (runB cf d as h) Q E = SP (evSs cf d.body (as.map .val ++ List.replicate (d.ns - d.np) .no) h) (Ret Q E) := by
  unfold runB
  rw [if_pos ⟨h1, h2⟩]
  generalize evSs cf d.body _ h = r
  rcases r with _ | ⟨f, e, h⟩
  · rfl
  · cases f <;> rfl
theorem call_rp {T : Tb} {k : Nat} {x : String} {d : FnDef} (e : T x = some d) {as : List PV} {h : Hm} {Q : PV → Hm → Prop} {E : XV → Hm → Prop} (q : SP (evSs (callF T k) d.body (as.map .val ++ List.replicate (d.ns - d.np) .no) h) (Ret Q E)) (h1 : as.length = d.np := by rfl) (h2 : d.np ≤ d.ns := by decide) : RP (callF T (k + 1) x as h) Q E := by
  rw [call_eq e, RP_run h1 h2]; exact q

/-! ### loops -/
theorem forL_inv {p : Pt} {body : En → Hm → Rt} {P : Po} (I : List PV → En → Hm → Prop) (h0 : ∀ env h, I [] env h → P.nx env h)
    (h1 : ∀ x xs env h, I (x :: xs) env h → OP (ptSet env p x) fun env1 => SP (body env1 h) { P with nx := I xs, ct := I xs, bk := P.nx }) : ∀ xs env h, I xs env h → SP (forL p body xs env h) P
  | [], env, h, q => h0 env h q
  | x :: xs, env, h, q => by
    have s := h1 x xs env h q
    show SP (match ptSet env p x with
      | none => none
      | some env1 => match body env1 h with
        | some (.nx, env2, h2) => forL p body xs env2 h2
        | some (.ct, env2, h2) => forL p body xs env2 h2
        | some (.bk, env2, h2) => some (.nx, env2, h2)
        | r => r) P
    rcases hp : ptSet env p x with _ | env1
    · rw [hp] at s; exact s.elim
    · rw [hp] at s
      have s : SP (body env1 h) { P with nx := I xs, ct := I xs, bk := P.nx } := s
      dsimp only
      rcases hb : body env1 h with _ | ⟨f, e, h2⟩
      · rw [hb] at s; exact s.elim
      · rw [hb] at s
        cases f
        · exact forL_inv I h0 h1 xs e h2 s
        · exact s
        · exact forL_inv I h0 h1 xs e h2 s
        · exact s
        · exact s
theorem whl_inv {c : En → Hm → Rs Bool} {body : En → Hm → Rt} {P : Po} (I : Nat → En → Hm → Prop)
    (h1 : ∀ n env h, I n env h → RP (c env h) (fun b h1 => if b = true then SP (body env h1) { P with nx := fun e h => ∃ m, m < n ∧ I m e h, ct := fun e h => ∃ m, m < n ∧ I m e h, bk := P.nx } else P.nx env h1) P.xc) :
    ∀ f n env h, n < f → I n env h → SP (whl c body f env h) P
  | 0, n, env, h, hf, q => absurd hf (Nat.not_lt_zero _)
  | f + 1, n, env, h, hf, q => by
    have s := h1 n env h q
    show SP (bindS (c env h) env fun b h1 => if b = true then match body env h1 with
      | some (.nx, env2, h2) => whl c body f env2 h2
      | some (.ct, env2, h2) => whl c body f env2 h2
      | some (.bk, env2, h2) => some (.nx, env2, h2)
      | r => r
    else some (.nx, env, h1)) P
    rw [SP_bind]
    refine s.mono (fun b h2 z => ?_) fun x h2 z => z
    cases b with
    | false => exact z
    | true =>
      rw [if_pos rfl] at z ⊢
      rcases hb : body env h2 with _ | ⟨fl, e, h3⟩
      · rw [hb] at z; exact z.elim
      · rw [hb] at z
        cases fl
        · obtain ⟨m, hm, z⟩ := z
          exact whl_inv I h1 f m e h3 (by omega) z
        · exact z
        · obtain ⟨m, hm, z⟩ := z
          exact whl_inv I h1 f m e h3 (by omega) z
        · exact z
        · exact z
theorem lc_inv {env : En} {p : Pt} {c : En → Hm → Rs Bool} {e : En → Hm → Rs PV} {Q : List PV → Hm → Prop} {E : XV → Hm → Prop} (I : List PV → Hm → List PV → Prop) (h0 : ∀ h acc, I [] h acc → Q acc h)
    (h1 : ∀ x xs h acc, I (x :: xs) h acc → OP (ptSet env p x) fun env' => RP (c env' h) (fun b h1 => if b = true then RP (e env' h1) (fun v h2 => v.nb = true ∧ acc.length < sizeLine ∧ I xs h2 (acc ++ [v])) (fun _ _ => False) else I xs h1 acc) fun _ _ => False) :
    ∀ xs h acc, I xs h acc → RP (noX (lcLoop env p c e xs h acc)) Q E
  | [], h, acc, q => h0 h acc q
  | x :: xs, h, acc, q => by
    have s := h1 x xs h acc q
    rcases hp : ptSet env p x with _ | env1
    · rw [hp] at s; exact s.elim
    · rw [hp] at s
      obtain ⟨b, h2, e1, s⟩ := RP.ex (show RP (c env1 h) _ _ from s)
      cases b with
      | false =>
        have : lcLoop env p c e (x :: xs) h acc = lcLoop env p c e xs h2 acc := by simp [lcLoop, hp, e1, bindR]
        rw [this]
        exact lc_inv I h0 h1 xs h2 acc s
      | true =>
        obtain ⟨v, h3, e2, s1, s2, s3⟩ := RP.ex (show RP (e env1 h2) _ _ from s)
        have : lcLoop env p c e (x :: xs) h acc = lcLoop env p c e xs h3 (acc ++ [v]) := by simp [lcLoop, hp, e1, e2, bindR, s1, s2]
        rw [this]
        exact lc_inv I h0 h1 xs h3 _ s3
/-- a list written by what is made of each item alone -/
theorem lc_map {env : En} {p : Pt} {c : En → Hm → Rs Bool} {e : En → Hm → Rs PV} {f : PV → PV} {h : Hm} (xs : List PV)
    (h1 : ∀ x ∈ xs, OP (ptSet env p x) fun env' => c env' h = some (.ok true, h) ∧ e env' h = some (.ok (f x), h) ∧ (f x).nb = true) :
    ∀ acc : List PV, acc.length + xs.length ≤ sizeLine → lcLoop env p c e xs h acc = some (.ok (acc ++ xs.map f), h) := by
  induction xs with
  | nil => intro acc _; simp [lcLoop, okR]
  | cons x xs ih =>
    intro acc hl
    have s := h1 x (List.mem_cons_self ..)
    rcases hp : ptSet env p x with _ | env1
    · rw [hp] at s; exact s.elim
    · rw [hp] at s
      obtain ⟨s1, s2, s3⟩ := (show _ ∧ _ ∧ _ from s)
      simp only [List.length_cons] at hl
      have : lcLoop env p c e (x :: xs) h acc = lcLoop env p c e xs h (acc ++ [f x]) := by
        have : acc.length < sizeLine := by omega
        simp [lcLoop, hp, s1, s2, s3, bindR, this]
      rw [this, ih (fun y hy => h1 y (List.mem_cons_of_mem _ hy)) _ (by simp; omega)]
      simp

section
variable {cf : Cf} {env : En} {h : Hm} {E : XV → Hm → Prop}
theorem w_ms {Q : PV → Hm → Prop} {m : Ms} {o : PG.E} {es : Es} : RP (evE cf (.ms m o es) env h) Q E = RP (evE cf o env h) (fun u h1 => OP (stOf u) fun a => RP (evEs cf es env h1) (fun vs h2 => OP (sMt h2 m a vs) fun w => Q w h2) E) E := by
  rw [evE, RP_bind]
  congr 1
  funext u h1
  cases u <;> first | rfl | skip
  simp only [stOf, OP_some, RP_bind, RP_lift]
section
variable {Q : List PV → Hm → Prop}
theorem w_rv1 {e : PG.E} : RP (evI cf (.rv1 e) env h) Q E = RP (evE cf e env h) (fun v h1 => OP (inOf v) fun n => OP (rvItems 0 n) fun xs => Q xs h1) E := by
  rw [evI, RP_bind]
  congr 1
  funext v h1
  cases v <;> first | rfl | skip
  simp only [inOf, OP_some, RP_lift]
theorem w_rv2 {a b : PG.E} : RP (evI cf (.rv2 a b) env h) Q E = RP (evE cf a env h) (fun u h1 => RP (evE cf b env h1) (fun v h2 => OP (inOf u) fun m => OP (inOf v) fun n => OP (rvItems m n) fun xs => Q xs h2) E) E := by
  rw [evI, RP_bind]
  congr 1
  funext u h1
  rw [RP_bind]
  congr 1
  funext v h2
  cases u <;> first | rfl | skip
  cases v <;> first | rfl | skip
  simp only [inOf, OP_some, RP_lift]
theorem w_enu {e : PG.E} : RP (evI cf (.enu e) env h) Q E = RP (evE cf e env h) (fun v h1 => OP (lsOf v) fun xs => Q (enItems xs) h1) E := by
  rw [evI, RP_bind]
  congr 1
  funext v h1
  cases v <;> first | rfl | skip
end
section
variable {P : Po}
theorem w_aug {i : Nat} {op : Bo} {e : PG.E} : SP (evS cf (.aug i op e) env h) P = OP (slGet env i) fun u => RP (evE cf e env h) (fun v h1 => OP (augOp op u v) fun w => if w.nb = true then P.nx (env.set i (.val w)) h1 else False) P.xc := by
  rw [evS]
  rcases slGet env i with _ | u
  · rfl
  · dsimp only
    rw [SP_bind]
    show RP _ _ _ = RP _ _ _
    congr 1
    funext v h1
    rcases augOp op u v with _ | w
    · rfl
    · simp only [SP_if, SP_nx, SP_none, OP_some]
theorem w_popX {i : Nat} : SP (evS cf (.popX i) env h) P = OP (popOf env h i) fun q => P.nx q.2.1 q.2.2 := by
  rw [evS]
  rcases popOf env h i with _ | ⟨y, e, h1⟩ <;> rfl
theorem w_popV {p : Pt} {i : Nat} : SP (evS cf (.popV p i) env h) P = OP (popOf env h i) fun q => OP (ptSet q.2.1 p q.1) fun env2 => P.nx env2 q.2.2 := by
  rw [evS]
  rcases popOf env h i with _ | ⟨y, e, h1⟩
  · rfl
  · dsimp only
    show SP _ P = OP (ptSet e p y) _
    rcases ptSet e p y with _ | z <;> rfl
def extE (cf : Cf) (e : PG.E) (env : En) (h : Hm) (i : Nat) (P : Po) : Option Sl → Prop
  | some (.own xs) => RP (evE cf e env h) (fun v h1 => OP (asLst h1 v) fun zs => if xs.length + zs.length ≤ sizeLine then P.nx (env.set i (.own (xs ++ zs))) h1 else False) P.xc
  | some (.val u) => OP (isCell h u) fun n => RP (evE cf e env h) (fun v h1 => OP (asLst h1 v) fun zs => SP (refExt env h1 zs n) P) P.xc
  | _ => False
theorem w_extV {i : Nat} {e : PG.E} : SP (evS cf (.extV i e) env h) P = extE cf e env h i P env[i]? := by
  rw [evS]
  rcases env[i]? with _ | ⟨_ | u | xs | _⟩
  · rfl
  · rfl
  · dsimp only [extE]
    rcases isCell h u with _ | n
    · rfl
    · dsimp only
      rw [SP_bind]
      show RP _ _ _ = RP _ _ _
      congr 1
      funext v h1
      rcases asLst h1 v with _ | zs <;> rfl
  · dsimp only [extE]
    rw [SP_bind]
    congr 1
    funext v h1
    rcases asLst h1 v with _ | zs
    · rfl
    · simp only [SP_if, SP_nx, SP_none, OP_some]
  · rfl
theorem ext_o {e : PG.E} {xs : List PV} {i : Nat} : extE cf e env h i P (some (.own xs)) = RP (evE cf e env h) (fun v h1 => OP (asLst h1 v) fun zs => if xs.length + zs.length ≤ sizeLine then P.nx (env.set i (.own (xs ++ zs))) h1 else False) P.xc := rfl
theorem ext_v {e : PG.E} {u : PV} {i : Nat} : extE cf e env h i P (some (.val u)) = OP (isCell h u) fun n => RP (evE cf e env h) (fun v h1 => OP (asLst h1 v) fun zs => SP (refExt env h1 zs n) P) P.xc := rfl
theorem refExt_i {n : Nat} {xs zs : List PV} (e : h[n]? = some (.lst xs)) : SP (refExt env h zs n) P = if xs.length + zs.length ≤ sizeLine then P.nx env (h.set n (.lst (xs ++ zs))) else False := by
  unfold refExt
  simp only [e, SP_if, SP_nx, SP_none]
end
end
end W0
end PG


set_option Elab.async false
set_option maxRecDepth 100000
set_option linter.unusedVariables false
/-! PgW: the same rules, what stands behind kept from being read too early. -/
namespace PG
open PySem L2
/-- the mark -/
inductive Tg {γ : Type} (x : γ) : Type where
  | mk
def appE (cf : Cf) (e : PG.E) (env : En) (h : Hm) (i : Nat) (P : Po) (t : Tg P) (s : Option Sl) : Prop := W0.appE cf e env h i P s
def setE (cf : Cf) (k : PG.E) (env : En) (h : Hm) (i : Nat) (v : PV) (P : Po) (t : Tg P) (s : Option Sl) : Prop := W0.setE cf k env h i v P s
def extE (cf : Cf) (e : PG.E) (env : En) (h : Hm) (i : Nat) (P : Po) (t : Tg P) (s : Option Sl) : Prop := W0.extE cf e env h i P s
structure RP {α : Type} (r : Rs α) (Q : α → Hm → Prop) (E : XV → Hm → Prop) (t : Tg (Q, E) := .mk) : Prop where
  of ::
  out : W0.RP r Q E
structure OP {α : Type} (o : Option α) (Q : α → Prop) (t : Tg Q := .mk) : Prop where
  of ::
  out : W0.OP o Q
structure SP (r : Rt) (P : Po) (t : Tg P := .mk) : Prop where
  of ::
  out : W0.SP r P
theorem RP_def {α : Type} {r : Rs α} {Q : α → Hm → Prop} {E : XV → Hm → Prop} {t : Tg (Q, E)} : RP r Q E t = W0.RP r Q E := propext ⟨RP.out, RP.of⟩
theorem OP_def {α : Type} {r : Option α} {Q : α → Prop} {t : Tg Q} : OP r Q t = W0.OP r Q := propext ⟨OP.out, OP.of⟩
theorem SP_def {r : Rt} {P : Po} {t : Tg P} : SP r P t = W0.SP r P := propext ⟨SP.out, SP.of⟩

section
variable {α β : Type} {Q : α → Hm → Prop} {E : XV → Hm → Prop} {P : Po}
theorem RP_bind {r : Rs β} {f : β → Hm → Rs α} : RP (bindR r f) Q E = RP r (fun a h => RP (f a h) Q E) E := by
  first
  | exact W0.RP_bind
  | (simp only [RP_def, OP_def, SP_def, appE, setE] at *; try exact W0.RP_bind)
theorem RP_okR {a : α} {h : Hm} : RP (okR a h) Q E = Q a h := by
  first
  | exact W0.RP_okR
  | (simp only [RP_def, OP_def, SP_def, appE, setE] at *; try exact W0.RP_okR)
theorem RP_ok {a : α} {h : Hm} : RP (some (.ok a, h)) Q E = Q a h := by
  first
  | exact W0.RP_ok
  | (simp only [RP_def, OP_def, SP_def, appE, setE] at *; try exact W0.RP_ok)
theorem RP_exc {x : XV} {h : Hm} : RP (some (.exc x, h)) Q E = E x h := by
  first
  | exact W0.RP_exc
  | (simp only [RP_def, OP_def, SP_def, appE, setE] at *; try exact W0.RP_exc)
theorem RP_none : RP none Q E = False := by
  first
  | exact W0.RP_none
  | (simp only [RP_def, OP_def, SP_def, appE, setE] at *; try exact W0.RP_none)
theorem RP_lift {o : Option α} {h : Hm} : RP (liftR o h) Q E = OP o fun a => Q a h := by
  first
  | exact W0.RP_lift
  | (simp only [RP_def, OP_def, SP_def, appE, setE] at *; try exact W0.RP_lift)
theorem RP_ite {c : Prop} [Decidable c] {a b : Rs α} : RP (if c then a else b) Q E = ((c → RP a Q E) ∧ (¬ c → RP b Q E)) := by
  first
  | exact W0.RP_ite
  | (simp only [RP_def, OP_def, SP_def, appE, setE] at *; try exact W0.RP_ite)
theorem OP_some {a : α} {q : α → Prop} : OP (some a) q = q a := by
  first
  | exact W0.OP_some
  | (simp only [RP_def, OP_def, SP_def, appE, setE] at *; try exact W0.OP_some)
theorem OP_none {q : α → Prop} : OP (none : Option α) q = False := by
  first
  | exact W0.OP_none
  | (simp only [RP_def, OP_def, SP_def, appE, setE] at *; try exact W0.OP_none)
theorem OP_map {f : β → α} {o : Option β} {q : α → Prop} : OP (o.map f) q = OP o fun b => q (f b) := by
  first
  | exact W0.OP_map
  | (simp only [RP_def, OP_def, SP_def, appE, setE] at *; try exact W0.OP_map)
theorem OP_ite {c : Prop} [Decidable c] {a b : Option α} {q : α → Prop} : OP (if c then a else b) q = ((c → OP a q) ∧ (¬ c → OP b q)) := by
  first
  | exact W0.OP_ite
  | (simp only [RP_def, OP_def, SP_def, appE, setE] at *; try exact W0.OP_ite)
theorem SP_seq {r : Rt} {k : En → Hm → Rt} : SP (seqS r k) P = SP r { P with nx := fun e h => SP (k e h) P } := by
  first
  | exact W0.SP_seq
  | (simp only [RP_def, OP_def, SP_def, appE, setE] at *; try exact W0.SP_seq)
theorem SP_bind {r : Rs β} {env : En} {f : β → Hm → Rt} : SP (bindS r env f) P = RP r (fun a h => SP (f a h) P) P.xc := by
  first
  | exact W0.SP_bind
  | (simp only [RP_def, OP_def, SP_def, appE, setE] at *; try exact W0.SP_bind)
theorem SP_nx {e : En} {h : Hm} : SP (some (.nx, e, h)) P = P.nx e h := by
  first
  | exact W0.SP_nx
  | (simp only [RP_def, OP_def, SP_def, appE, setE] at *; try exact W0.SP_nx)
theorem SP_bk {e : En} {h : Hm} : SP (some (.bk, e, h)) P = P.bk e h := by
  first
  | exact W0.SP_bk
  | (simp only [RP_def, OP_def, SP_def, appE, setE] at *; try exact W0.SP_bk)
theorem SP_ct {e : En} {h : Hm} : SP (some (.ct, e, h)) P = P.ct e h := by
  first
  | exact W0.SP_ct
  | (simp only [RP_def, OP_def, SP_def, appE, setE] at *; try exact W0.SP_ct)
theorem SP_rt {v : PV} {e : En} {h : Hm} : SP (some (.rt v, e, h)) P = P.rt v h := by
  first
  | exact W0.SP_rt
  | (simp only [RP_def, OP_def, SP_def, appE, setE] at *; try exact W0.SP_rt)
theorem SP_none : SP none P = False := by
  first
  | exact W0.SP_none
  | (simp only [RP_def, OP_def, SP_def, appE, setE] at *; try exact W0.SP_none)
theorem SP_ite {c : Prop} [Decidable c] {a b : Rt} : SP (if c then a else b) P = ((c → SP a P) ∧ (¬ c → SP b P)) := by
  first
  | exact W0.SP_ite
  | (simp only [RP_def, OP_def, SP_def, appE, setE] at *; try exact W0.SP_ite)
theorem RP.mono {r : Rs α} {Q Q' : α → Hm → Prop} {E E' : XV → Hm → Prop} (q : RP r Q E) (hQ : ∀ a h, Q a h → Q' a h) (hE : ∀ x h, E x h → E' x h) : RP r Q' E' := by
  first
  | exact W0.RP.mono q hQ hE
  | (simp only [RP_def, OP_def, SP_def, appE, setE] at *; try exact W0.RP.mono q hQ hE)
theorem SP.mono {r : Rt} {P P' : Po} (q : SP r P) (h1 : ∀ e h, P.nx e h → P'.nx e h) (h2 : ∀ e h, P.bk e h → P'.bk e h) (h3 : ∀ e h, P.ct e h → P'.ct e h) (h4 : ∀ v h, P.rt v h → P'.rt v h) (h5 : ∀ x h, P.xc x h → P'.xc x h) : SP r P' := by
  first
  | exact W0.SP.mono q h1 h2 h3 h4 h5
  | (simp only [RP_def, OP_def, SP_def, appE, setE] at *; try exact W0.SP.mono q h1 h2 h3 h4 h5)
theorem RP.ex {r : Rs α} {Q : α → Hm → Prop} (q : RP r Q fun _ _ => False) : ∃ a h, r = some (.ok a, h) ∧ Q a h := by
  first
  | exact W0.RP.ex q
  | (simp only [RP_def, OP_def, SP_def, appE, setE] at *; try exact W0.RP.ex q)
theorem RP.of_eq {r : Rs α} {a : α} {h : Hm} (e : r = some (.ok a, h)) (q : Q a h) : RP r Q E := by
  first
  | exact W0.RP.of_eq e q
  | (simp only [RP_def, OP_def, SP_def, appE, setE] at *; try exact W0.RP.of_eq e q)
/-- RP by the one answer -/
theorem RP_eq {r : Rs α} {a : α} {h : Hm} (e : r = some (.ok a, h)) : RP r Q E = Q a h := by
  first
  | exact W0.RP_eq e
  | (simp only [RP_def, OP_def, SP_def, appE, setE] at *; try exact W0.RP_eq e)
end


theorem RP_if {α : Type} {Q : α → Hm → Prop} {E : XV → Hm → Prop} {c : Prop} [Decidable c] {a b : Rs α} : RP (if c then a else b) Q E = if c then RP a Q E else RP b Q E := by
  first
  | exact W0.RP_if
  | (simp only [RP_def, OP_def, SP_def, appE, setE] at *; try exact W0.RP_if)
theorem OP_if {α : Type} {q : α → Prop} {c : Prop} [Decidable c] {a b : Option α} : OP (if c then a else b) q = if c then OP a q else OP b q := by
  first
  | exact W0.OP_if
  | (simp only [RP_def, OP_def, SP_def, appE, setE] at *; try exact W0.OP_if)
theorem SP_if {P : Po} {c : Prop} [Decidable c] {a b : Rt} : SP (if c then a else b) P = if c then SP a P else SP b P := by
  first
  | exact W0.SP_if
  | (simp only [RP_def, OP_def, SP_def, appE, setE] at *; try exact W0.SP_if)
def Ret (Q : PV → Hm → Prop) (E : XV → Hm → Prop) : Po := ⟨fun _ h => Q .non h, fun _ _ => False, fun _ _ => False, Q, E⟩
/-! ### the rules, construct by construct -/
section
variable {cf : Cf} {env : En} {h : Hm} {E : XV → Hm → Prop}
section
variable {Q : PV → Hm → Prop}
theorem w_var {i : Nat} : RP (evE cf (.var i) env h) Q E = OP (slGet env i) fun v => Q v h := by
  first
  | exact W0.w_var
  | (simp only [RP_def, OP_def, SP_def, appE, setE] at *; try exact W0.w_var)
theorem w_cst {c : PV} : RP (evE cf (.cst c) env h) Q E = Q c h := by
  first
  | exact W0.w_cst
  | (simp only [RP_def, OP_def, SP_def, appE, setE] at *; try exact W0.w_cst)
theorem w_glb {x : String} {c : PV} : RP (evE cf (.glb x c) env h) Q E = Q c h := by
  first
  | exact W0.w_glb
  | (simp only [RP_def, OP_def, SP_def, appE, setE] at *; try exact W0.w_glb)
theorem w_bty {x : String} : RP (evE cf (.bty x) env h) Q E = Q (.ty x) h := by
  first
  | exact W0.w_bty
  | (simp only [RP_def, OP_def, SP_def, appE, setE] at *; try exact W0.w_bty)
theorem w_tup {es : Es} : RP (evE cf (.tup es) env h) Q E = RP (evEs cf es env h) (fun vs h1 => if vs.all PV.nb = true ∧ vs.length ≤ sizeLine then Q (.tup vs) h1 else False) E := by
  first
  | exact W0.w_tup
  | (simp only [RP_def, OP_def, SP_def, appE, setE] at *; try exact W0.w_tup)
theorem w_lst {l : L} : RP (evE cf (.lst l) env h) Q E = RP (evL cf l env h) (fun vs h1 => Q (.lst vs) h1) E := by
  first
  | exact W0.w_lst
  | (simp only [RP_def, OP_def, SP_def, appE, setE] at *; try exact W0.w_lst)
theorem w_rf {l : L} : RP (evE cf (.rf l) env h) Q E = RP (evL cf l env h) (fun vs h1 => Q (.ref h1.length) (h1 ++ [.lst vs])) E := by
  first
  | exact W0.w_rf
  | (simp only [RP_def, OP_def, SP_def, appE, setE] at *; try exact W0.w_rf)
theorem w_bin {op : Bo} {a b : PG.E} : RP (evE cf (.bin op a b) env h) Q E = RP (evE cf a env h) (fun u h1 => RP (evE cf b env h1) (fun v h2 => OP (bOp h2 op u v) fun w => Q w h2) E) E := by
  first
  | exact W0.w_bin
  | (simp only [RP_def, OP_def, SP_def, appE, setE] at *; try exact W0.w_bin)
theorem w_neg {a : PG.E} : RP (evE cf (.neg a) env h) Q E = RP (evE cf a env h) (fun u h1 => OP (negOf u) fun w => Q w h1) E := by
  first
  | exact W0.w_neg
  | (simp only [RP_def, OP_def, SP_def, appE, setE] at *; try exact W0.w_neg)
theorem w_cmp {op : Co} {a b : PG.E} : RP (evE cf (.cmp op a b) env h) Q E = RP (evE cf a env h) (fun u h1 => RP (evE cf b env h1) (fun v h2 => OP (cOp h2 op u v) fun w => Q (.bl w) h2) E) E := by
  first
  | exact W0.w_cmp
  | (simp only [RP_def, OP_def, SP_def, appE, setE] at *; try exact W0.w_cmp)
theorem w_chn {op op2 : Co} {a b c : PG.E} : RP (evE cf (.chn op op2 a b c) env h) Q E = RP (evE cf a env h) (fun u h1 => RP (evE cf b env h1) (fun v h2 => OP (cOp h2 op u v) fun k => if k = true then RP (evE cf c env h2) (fun w h3 => OP (cOp h3 op2 v w) fun z => Q (.bl z) h3) E else Q (.bl false) h2) E) E := by
  first
  | exact W0.w_chn
  | (simp only [RP_def, OP_def, SP_def, appE, setE] at *; try exact W0.w_chn)
theorem w_not {t : T} : RP (evE cf (.not t) env h) Q E = RP (evT cf t env h) (fun b h1 => Q (.bl (!b)) h1) E := by
  first
  | exact W0.w_not
  | (simp only [RP_def, OP_def, SP_def, appE, setE] at *; try exact W0.w_not)
theorem w_bop {k : Bool} {es : Es} : RP (evE cf (.bop k es) env h) Q E = RP (evB cf k es env h) Q E := by
  first
  | exact W0.w_bop
  | (simp only [RP_def, OP_def, SP_def, appE, setE] at *; try exact W0.w_bop)
theorem w_ife {t : T} {a b : PG.E} : RP (evE cf (.ife t a b) env h) Q E = RP (evT cf t env h) (fun k h1 => if k = true then RP (evE cf a env h1) Q E else RP (evE cf b env h1) Q E) E := by
  first
  | exact W0.w_ife
  | (simp only [RP_def, OP_def, SP_def, appE, setE] at *; try exact W0.w_ife)
theorem w_idx {a b : PG.E} : RP (evE cf (.idx a b) env h) Q E = RP (evE cf a env h) (fun u h1 => RP (evE cf b env h1) (fun v h2 => OP (cIdx h2 u v) fun w => Q w h2) E) E := by
  first
  | exact W0.w_idx
  | (simp only [RP_def, OP_def, SP_def, appE, setE] at *; try exact W0.w_idx)
theorem w_slc {a : PG.E} {lo hi : Oe} : RP (evE cf (.slc a lo hi) env h) Q E = RP (evE cf a env h) (fun u h1 => RP (evO cf lo env h1) (fun l h2 => RP (evO cf hi env h2) (fun k h3 => OP (cSlc h3 u l k) fun w => Q w h3) E) E) E := by
  first
  | exact W0.w_slc
  | (simp only [RP_def, OP_def, SP_def, appE, setE] at *; try exact W0.w_slc)
theorem w_call {f : String} {es : Es} : RP (evE cf (.call f es) env h) Q E = RP (evEs cf es env h) (fun vs h1 => if vs.all PV.nb = true then RP (cf f vs h1) Q E else False) E := by
  first
  | exact W0.w_call
  | (simp only [RP_def, OP_def, SP_def, appE, setE] at *; try exact W0.w_call)
theorem w_blt {b : Bl} {es : Es} : RP (evE cf (.blt b es) env h) Q E = RP (evEs cf es env h) (fun vs h1 => OP (cBl h1 b vs) fun w => Q w h1) E := by
  first
  | exact W0.w_blt
  | (simp only [RP_def, OP_def, SP_def, appE, setE] at *; try exact W0.w_blt)
theorem w_b1 {k : Bool} {e : PG.E} : RP (evB cf k (.cons e .nil) env h) Q E = RP (evE cf e env h) Q E := by
  first
  | exact W0.w_b1
  | (simp only [RP_def, OP_def, SP_def, appE, setE] at *; try exact W0.w_b1)
theorem w_b2 {k : Bool} {e e2 : PG.E} {r : Es} : RP (evB cf k (.cons e (.cons e2 r)) env h) Q E = RP (evE cf e env h) (fun v h1 => OP (blOf v) fun b => if b = k then RP (evB cf k (.cons e2 r) env h1) Q E else Q (.bl b) h1) E := by
  first
  | exact W0.w_b2
  | (simp only [RP_def, OP_def, SP_def, appE, setE] at *; try exact W0.w_b2)
end
section
variable {Q : Bool → Hm → Prop}
theorem w_tru {e : PG.E} : RP (evT cf (.tru e) env h) Q E = RP (evE cf e env h) (fun v h1 => OP (truth h1 v) fun b => Q b h1) E := by
  first
  | exact W0.w_tru
  | (simp only [RP_def, OP_def, SP_def, appE, setE] at *; try exact W0.w_tru)
theorem w_tno {t : T} : RP (evT cf (.not t) env h) Q E = RP (evT cf t env h) (fun b h1 => Q (!b) h1) E := by
  first
  | exact W0.w_tno
  | (simp only [RP_def, OP_def, SP_def, appE, setE] at *; try exact W0.w_tno)
theorem w_tbo {k : Bool} {ts : Ts} : RP (evT cf (.bop k ts) env h) Q E = RP (evTB cf k ts env h) Q E := by
  first
  | exact W0.w_tbo
  | (simp only [RP_def, OP_def, SP_def, appE, setE] at *; try exact W0.w_tbo)
theorem w_t1 {k : Bool} {e : T} : RP (evTB cf k (.cons e .nil) env h) Q E = RP (evT cf e env h) Q E := by
  first
  | exact W0.w_t1
  | (simp only [RP_def, OP_def, SP_def, appE, setE] at *; try exact W0.w_t1)
theorem w_t2 {k : Bool} {e e2 : T} {r : Ts} : RP (evTB cf k (.cons e (.cons e2 r)) env h) Q E = RP (evT cf e env h) (fun b h1 => if b = k then RP (evTB cf k (.cons e2 r) env h1) Q E else Q b h1) E := by
  first
  | exact W0.w_t2
  | (simp only [RP_def, OP_def, SP_def, appE, setE] at *; try exact W0.w_t2)
theorem w_c0 : RP (evC cf .no env h) Q E = Q true h := by
  first
  | exact W0.w_c0
  | (simp only [RP_def, OP_def, SP_def, appE, setE] at *; try exact W0.w_c0)
theorem w_c1 {t : T} : RP (evC cf (.so t) env h) Q E = RP (evT cf t env h) Q E := by
  first
  | exact W0.w_c1
  | (simp only [RP_def, OP_def, SP_def, appE, setE] at *; try exact W0.w_c1)
end
section
variable {Q : Option Int → Hm → Prop}
theorem w_o0 : RP (evO cf .no env h) Q E = Q none h := by
  first
  | exact W0.w_o0
  | (simp only [RP_def, OP_def, SP_def, appE, setE] at *; try exact W0.w_o0)
theorem w_o1 {e : PG.E} : RP (evO cf (.so e) env h) Q E = RP (evE cf e env h) (fun v h1 => OP (inOf v) fun i => Q (some i) h1) E := by
  first
  | exact W0.w_o1
  | (simp only [RP_def, OP_def, SP_def, appE, setE] at *; try exact W0.w_o1)
end
section
variable {Q : List PV → Hm → Prop}
theorem w_e0 : RP (evEs cf .nil env h) Q E = Q [] h := by
  first
  | exact W0.w_e0
  | (simp only [RP_def, OP_def, SP_def, appE, setE] at *; try exact W0.w_e0)
theorem w_e1 {e : PG.E} {r : Es} : RP (evEs cf (.cons e r) env h) Q E = RP (evE cf e env h) (fun v h1 => RP (evEs cf r env h1) (fun vs h2 => Q (v :: vs) h2) E) E := by
  first
  | exact W0.w_e1
  | (simp only [RP_def, OP_def, SP_def, appE, setE] at *; try exact W0.w_e1)
theorem w_dsp {es : Es} : RP (evL cf (.dsp es) env h) Q E = RP (evEs cf es env h) (fun vs h1 => if vs.all PV.nb = true ∧ vs.length ≤ sizeLine then Q vs h1 else False) E := by
  first
  | exact W0.w_dsp
  | (simp only [RP_def, OP_def, SP_def, appE, setE] at *; try exact W0.w_dsp)
theorem w_lc {p : Pt} {it : Iv} {c : Ot} {e : PG.E} : RP (evL cf (.cmp p it c e) env h) Q E = RP (evI cf it env h) (fun xs h1 => RP (noX (lcLoop (wipeE env (ptSlots p)) p (evC cf c) (evE cf e) xs h1 [])) Q E) E := by
  first
  | exact W0.w_lc
  | (simp only [RP_def, OP_def, SP_def, appE, setE] at *; try exact W0.w_lc)
theorem w_lof {e : PG.E} : RP (evL cf (.lof e) env h) Q E = RP (evE cf e env h) (fun v h1 => OP (asSeq h1 v) fun xs => Q xs h1) E := by
  first
  | exact W0.w_lof
  | (simp only [RP_def, OP_def, SP_def, appE, setE] at *; try exact W0.w_lof)
theorem w_lrg {e : PG.E} : RP (evL cf (.lrg e) env h) Q E = RP (evE cf e env h) (fun v h1 => OP (inOf v) fun n => if n ≤ 16777216 ∧ 0 ≤ n then Q ((List.range n.toNat).map fun (k : Nat) => .int k) h1 else False) E := by
  first
  | exact W0.w_lrg
  | (simp only [RP_def, OP_def, SP_def, appE, setE] at *; try exact W0.w_lrg)
theorem w_ival {e : PG.E} : RP (evI cf (.val e) env h) Q E = RP (evE cf e env h) (fun v h1 => OP (itVal v) fun xs => Q xs h1) E := by
  first
  | exact W0.w_ival
  | (simp only [RP_def, OP_def, SP_def, appE, setE] at *; try exact W0.w_ival)
theorem w_rg1 {e : PG.E} : RP (evI cf (.rg1 e) env h) Q E = RP (evE cf e env h) (fun v h1 => OP (inOf v) fun n => OP (rgItems 0 n) fun xs => Q xs h1) E := by
  first
  | exact W0.w_rg1
  | (simp only [RP_def, OP_def, SP_def, appE, setE] at *; try exact W0.w_rg1)
theorem w_rg2 {a b : PG.E} : RP (evI cf (.rg2 a b) env h) Q E = RP (evE cf a env h) (fun u h1 => RP (evE cf b env h1) (fun v h2 => OP (inOf u) fun m => OP (inOf v) fun n => OP (rgItems m n) fun xs => Q xs h2) E) E := by
  first
  | exact W0.w_rg2
  | (simp only [RP_def, OP_def, SP_def, appE, setE] at *; try exact W0.w_rg2)
end
section
variable {P : Po}
theorem w_nil : SP (evSs cf .nil env h) P = P.nx env h := by
  first
  | exact W0.w_nil
  | (simp only [RP_def, OP_def, SP_def, appE, setE] at *; try exact W0.w_nil)
theorem w_cons {s : S} {r : Ss} : SP (evSs cf (.cons s r) env h) P = SP (evS cf s env h) ⟨fun e h => SP (evSs cf r e h) P, P.bk, P.ct, P.rt, P.xc⟩ := by
  first
  | exact W0.w_cons
  | (simp only [RP_def, OP_def, SP_def, appE, setE] at *; try exact W0.w_cons)
theorem w_asg {p : Pt} {e : PG.E} : SP (evS cf (.asg p e) env h) P = RP (evE cf e env h) (fun v h1 => OP (ptSet env p v) fun env' => P.nx env' h1) P.xc := by
  first
  | exact W0.w_asg
  | (simp only [RP_def, OP_def, SP_def, appE, setE] at *; try exact W0.w_asg)
theorem w_own {i : Nat} {l : L} : SP (evS cf (.own i l) env h) P = RP (evL cf l env h) (fun xs h1 => if i < env.length then P.nx (env.set i (.own xs)) h1 else False) P.xc := by
  first
  | exact W0.w_own
  | (simp only [RP_def, OP_def, SP_def, appE, setE] at *; try exact W0.w_own)
theorem w_exp {e : PG.E} : SP (evS cf (.exp e) env h) P = RP (evE cf e env h) (fun _ h1 => P.nx env h1) P.xc := by
  first
  | exact W0.w_exp
  | (simp only [RP_def, OP_def, SP_def, appE, setE] at *; try exact W0.w_exp)
theorem w_ret {e : PG.E} : SP (evS cf (.ret e) env h) P = RP (evE cf e env h) (fun v h1 => if v.nb = true then P.rt v h1 else False) P.xc := by
  first
  | exact W0.w_ret
  | (simp only [RP_def, OP_def, SP_def, appE, setE] at *; try exact W0.w_ret)
theorem w_retN : SP (evS cf .retN env h) P = P.rt .non h := by
  first
  | exact W0.w_retN
  | (simp only [RP_def, OP_def, SP_def, appE, setE] at *; try exact W0.w_retN)
theorem w_if {c : T} {a b : Ss} : SP (evS cf (.ife c a b) env h) P = RP (evT cf c env h) (fun k h1 => if k = true then SP (evSs cf a env h1) P else SP (evSs cf b env h1) P) P.xc := by
  first
  | exact W0.w_if
  | (simp only [RP_def, OP_def, SP_def, appE, setE] at *; try exact W0.w_if)
theorem w_whl {c : T} {b : Ss} : SP (evS cf (.whl c b) env h) P = SP (whl (evT cf c) (evSs cf b) fuel env h) P := by
  first
  | exact W0.w_whl
  | (simp only [RP_def, OP_def, SP_def, appE, setE] at *; try exact W0.w_whl)
theorem w_for {p : Pt} {it : Iv} {b : Ss} : SP (evS cf (.fr p it b) env h) P = RP (evI cf it env h) (fun xs h1 => SP (forL p (evSs cf b) xs env h1) P) P.xc := by
  first
  | exact W0.w_for
  | (simp only [RP_def, OP_def, SP_def, appE, setE] at *; try exact W0.w_for)
theorem w_brk : SP (evS cf .brk env h) P = P.bk env h := by
  first
  | exact W0.w_brk
  | (simp only [RP_def, OP_def, SP_def, appE, setE] at *; try exact W0.w_brk)
theorem w_cnt : SP (evS cf .cnt env h) P = P.ct env h := by
  first
  | exact W0.w_cnt
  | (simp only [RP_def, OP_def, SP_def, appE, setE] at *; try exact W0.w_cnt)
theorem w_pass : SP (evS cf .pass env h) P = P.nx env h := by
  first
  | exact W0.w_pass
  | (simp only [RP_def, OP_def, SP_def, appE, setE] at *; try exact W0.w_pass)
theorem w_nev : SP (evS cf .never env h) P = False := by
  first
  | exact W0.w_nev
  | (simp only [RP_def, OP_def, SP_def, appE, setE] at *; try exact W0.w_nev)
theorem w_frz {i : Nat} : SP (evS cf (.frz i) env h) P = P.nx (frzE env i env[i]?) h := by
  first
  | exact W0.w_frz
  | (simp only [RP_def, OP_def, SP_def, appE, setE] at *; try exact W0.w_frz)
theorem w_appV {i : Nat} {e : PG.E} : SP (evS cf (.appV i e) env h) P = appE cf e env h i P .mk env[i]? := by
  first
  | exact W0.w_appV
  | (simp only [RP_def, OP_def, SP_def, appE, setE] at *; try exact W0.w_appV)
theorem w_app {t e : PG.E} : SP (evS cf (.app t e) env h) P = RP (evE cf t env h) (fun u h1 => OP (isCell h1 u) fun n => RP (evE cf e env h1) (fun v h2 => SP (refApp env h2 v n) P) P.xc) P.xc := by
  first
  | exact W0.w_app
  | (simp only [RP_def, OP_def, SP_def, appE, setE] at *; try exact W0.w_app)
theorem w_setV {i : Nat} {k e : PG.E} : SP (evS cf (.setV i k e) env h) P = RP (evE cf e env h) (fun v h1 => setE cf k env h1 i v P .mk env[i]?) P.xc := by
  first
  | exact W0.w_setV
  | (simp only [RP_def, OP_def, SP_def, appE, setE] at *; try exact W0.w_setV)
theorem w_setI {t k e : PG.E} : SP (evS cf (.setI t k e) env h) P = RP (evE cf e env h) (fun v h1 => RP (evE cf t env h1) (fun u h2 => RP (evE cf k env h2) (fun w h3 => SP (refSet env h3 u w v) P) P.xc) P.xc) P.xc := by
  first
  | exact W0.w_setI
  | (simp only [RP_def, OP_def, SP_def, appE, setE] at *; try exact W0.w_setI)
theorem frz_o {xs : List PV} {i : Nat} : frzE env i (some (.own xs)) = env.set i (.val (.lst xs)) := by
  first
  | exact W0.frz_o
  | (simp only [RP_def, OP_def, SP_def, appE, setE] at *; try exact W0.frz_o)
theorem frz_v {v : PV} {i : Nat} : frzE env i (some (.val v)) = env := by
  first
  | exact W0.frz_v
  | (simp only [RP_def, OP_def, SP_def, appE, setE] at *; try exact W0.frz_v)
theorem frz_n {i : Nat} : frzE env i (some .no) = env := by
  first
  | exact W0.frz_n
  | (simp only [RP_def, OP_def, SP_def, appE, setE] at *; try exact W0.frz_n)
theorem app_o {e : PG.E} {xs : List PV} {i : Nat} : appE cf e env h i P .mk (some (.own xs)) = RP (evE cf e env h) (fun v h1 => if v.nb = true ∧ xs.length < sizeLine then P.nx (env.set i (.own (xs ++ [v]))) h1 else False) P.xc := by
  first
  | exact W0.app_o
  | (simp only [RP_def, OP_def, SP_def, appE, setE] at *; try exact W0.app_o)
theorem app_v {e : PG.E} {u : PV} {i : Nat} : appE cf e env h i P .mk (some (.val u)) = OP (isCell h u) fun n => RP (evE cf e env h) (fun v h1 => SP (refApp env h1 v n) P) P.xc := by
  first
  | exact W0.app_v (i := i)
  | (simp only [RP_def, OP_def, SP_def, appE, setE] at *; try exact W0.app_v (i := i))
theorem set_o {k : PG.E} {xs : List PV} {i : Nat} {v : PV} : setE cf k env h i v P .mk (some (.own xs)) = RP (evE cf k env h) (fun w h2 => SP (ownSet env h2 i xs w v) P) P.xc := by
  first
  | exact W0.set_o
  | (simp only [RP_def, OP_def, SP_def, appE, setE] at *; try exact W0.set_o)
theorem set_v {k : PG.E} {u v : PV} {i : Nat} : setE cf k env h i v P .mk (some (.val u)) = RP (evE cf k env h) (fun w h2 => SP (refSet env h2 u w v) P) P.xc := by
  first
  | exact W0.set_v (i := i)
  | (simp only [RP_def, OP_def, SP_def, appE, setE] at *; try exact W0.set_v (i := i))
theorem ownSet_i {i : Nat} {xs : List PV} {k : Int} {v : PV} : SP (ownSet env h i xs (.int k) v) P = OP (ixN xs.length k) fun n => if v.nb = true then P.nx (env.set i (.own (xs.set n v))) h else False := by
  first
  | exact W0.ownSet_i
  | (simp only [RP_def, OP_def, SP_def, appE, setE] at *; try exact W0.ownSet_i)
theorem refSet_i {n : Nat} {xs : List PV} {k : Int} {v : PV} (e : h[n]? = some (.lst xs)) : SP (refSet env h (.ref n) (.int k) v) P = OP (ixN xs.length k) fun m => if v.nb = true then P.nx env (h.set n (.lst (xs.set m v))) else False := by
  first
  | exact W0.refSet_i e
  | (simp only [RP_def, OP_def, SP_def, appE, setE] at *; try exact W0.refSet_i e)
theorem refApp_i {n : Nat} {xs : List PV} {v : PV} (e : h[n]? = some (.lst xs)) : SP (refApp env h v n) P = if v.nb = true ∧ xs.length < sizeLine then P.nx env (h.set n (.lst (xs ++ [v]))) else False := by
  first
  | exact W0.refApp_i e
  | (simp only [RP_def, OP_def, SP_def, appE, setE] at *; try exact W0.refApp_i e)
theorem isCell_i {n : Nat} {xs : List PV} (e : h[n]? = some (.lst xs)) : isCell h (.ref n) = some n := by
  first
  | exact W0.isCell_i e
  | (simp only [RP_def, OP_def, SP_def, appE, setE] at *; try exact W0.isCell_i e)
theorem negOf_i {i : Int} : negOf (.int i) = some (.int (-i)) := by
  first
  | exact W0.negOf_i
  | (simp only [RP_def, OP_def, SP_def, appE, setE] at *; try exact W0.negOf_i)
theorem blOf_b {b : Bool} : blOf (.bl b) = some b := by
  first
  | exact W0.blOf_b
  | (simp only [RP_def, OP_def, SP_def, appE, setE] at *; try exact W0.blOf_b)
theorem inOf_i {i : Int} : inOf (.int i) = some i := by
  first
  | exact W0.inOf_i
  | (simp only [RP_def, OP_def, SP_def, appE, setE] at *; try exact W0.inOf_i)
theorem itVal_l {xs : List PV} : itVal (.lst xs) = some xs := by
  first
  | exact W0.itVal_l
  | (simp only [RP_def, OP_def, SP_def, appE, setE] at *; try exact W0.itVal_l)
theorem itVal_c {xs : List PV} : itVal (.scr xs) = some xs := by
  first
  | exact W0.itVal_c
  | (simp only [RP_def, OP_def, SP_def, appE, setE] at *; try exact W0.itVal_c)
theorem itVal_t {xs : List PV} : itVal (.tup xs) = some xs := by
  first
  | exact W0.itVal_t
  | (simp only [RP_def, OP_def, SP_def, appE, setE] at *; try exact W0.itVal_t)
theorem itVal_s {s : Str} : itVal (.str s) = some (s.cps.toList.map fun c => .str ⟨#[c]⟩) := by
  first
  | exact W0.itVal_s
  | (simp only [RP_def, OP_def, SP_def, appE, setE] at *; try exact W0.itVal_s)
theorem asSeq_l {xs : List PV} : asSeq h (.lst xs) = some xs := by
  first
  | exact W0.asSeq_l
  | (simp only [RP_def, OP_def, SP_def, appE, setE] at *; try exact W0.asSeq_l)
theorem asSeq_b {xs : List PV} : asSeq h (.bor xs) = some xs := by
  first
  | exact W0.asSeq_b
  | (simp only [RP_def, OP_def, SP_def, appE, setE] at *; try exact W0.asSeq_b)
theorem asSeq_t {xs : List PV} : asSeq h (.tup xs) = some xs := by
  first
  | exact W0.asSeq_t
  | (simp only [RP_def, OP_def, SP_def, appE, setE] at *; try exact W0.asSeq_t)
theorem slc_s {s : Str} {lo hi : Option Int} : cSlc h (.str s) lo hi = some (.str (cutSt s lo hi)) := by
  first
  | exact W0.slc_s
  | (simp only [RP_def, OP_def, SP_def, appE, setE] at *; try exact W0.slc_s)
theorem slc_l {s : List PV} {lo hi : Option Int} : cSlc h (.lst s) lo hi = some (.lst (cutP s lo hi)) := by
  first
  | exact W0.slc_l
  | (simp only [RP_def, OP_def, SP_def, appE, setE] at *; try exact W0.slc_l)
theorem slc_b {s : List PV} {lo hi : Option Int} : cSlc h (.bor s) lo hi = some (.lst (cutP s lo hi)) := by
  first
  | exact W0.slc_b
  | (simp only [RP_def, OP_def, SP_def, appE, setE] at *; try exact W0.slc_b)
theorem slc_c {s : List PV} {lo hi : Option Int} : cSlc h (.scr s) lo hi = some (.lst (cutP s lo hi)) := by
  first
  | exact W0.slc_c
  | (simp only [RP_def, OP_def, SP_def, appE, setE] at *; try exact W0.slc_c)
theorem slc_t {s : List PV} {lo hi : Option Int} : cSlc h (.tup s) lo hi = some (.tup (cutP s lo hi)) := by
  first
  | exact W0.slc_t
  | (simp only [RP_def, OP_def, SP_def, appE, setE] at *; try exact W0.slc_t)
theorem Ret_nx {Q : PV → Hm → Prop} : (Ret Q E).nx env h = Q .non h := by
  first
  | exact W0.Ret_nx
  | (simp only [RP_def, OP_def, SP_def, appE, setE] at *; try exact W0.Ret_nx)
theorem Ret_rt {Q : PV → Hm → Prop} {v : PV} : (Ret Q E).rt v h = Q v h := by
  first
  | exact W0.Ret_rt
  | (simp only [RP_def, OP_def, SP_def, appE, setE] at *; try exact W0.Ret_rt)
theorem Ret_bk {Q : PV → Hm → Prop} : (Ret Q E).bk env h = False := by
  first
  | exact W0.Ret_bk
  | (simp only [RP_def, OP_def, SP_def, appE, setE] at *; try exact W0.Ret_bk)
theorem Ret_ct {Q : PV → Hm → Prop} : (Ret Q E).ct env h = False := by
  first
  | exact W0.Ret_ct
  | (simp only [RP_def, OP_def, SP_def, appE, setE] at *; try exact W0.Ret_ct)
theorem Ret_xc {Q : PV → Hm → Prop} {x : XV} : (Ret Q E).xc x h = E x h := by
  first
  | exact W0.Ret_xc
  | (simp only [RP_def, OP_def, SP_def, appE, setE] at *; try exact W0.Ret_xc)
end
end
/-- a def's call is its body -/
theorem call_eq {T : Tb} {k : Nat} {x : String} {d : FnDef} (e : T x = some d) (as : List PV) (h : Hm) : callF T (k + 1) x as h = runB (callF T k) d as h := by
  first
  | exact W0.call_eq e as h
  | (simp only [RP_def, OP_def, SP_def, appE, setE] at *; try exact W0.call_eq e as h)
theorem RP_run {cf : Cf} {d : FnDef} {as : List PV} {h : Hm} {Q : PV → Hm → Prop} {E : XV → Hm → Prop} (h1 : as.length = d.np) (h2 : d.np ≤ d.ns) :
    RP (runB cf d as h) Q E = SP (evSs cf d.body (as.map .val ++ List.replicate (d.ns - d.np) .no) h) (Ret Q E) := by
  first
  | exact W0.RP_run h1 h2
  | (simp only [RP_def, OP_def, SP_def, appE, setE] at *; try exact W0.RP_run h1 h2)
theorem call_rp {T : Tb} {k : Nat} {x : String} {d : FnDef} (e : T x = some d) {as : List PV} {h : Hm} {Q : PV → Hm → Prop} {E : XV → Hm → Prop} (q : SP (evSs (callF T k) d.body (as.map .val ++ List.replicate (d.ns - d.np) .no) h) (Ret Q E)) (h1 : as.length = d.np := by rfl) (h2 : d.np ≤ d.ns := by decide) : RP (callF T (k + 1) x as h) Q E := by
  first
  | exact W0.call_rp e q h1 h2
  | (simp only [RP_def, OP_def, SP_def, appE, setE] at *; try exact W0.call_rp e q h1 h2)
/-! ### loops -/
theorem forL_inv {p : Pt} {body : En → Hm → Rt} {P : Po} (I : List PV → En → Hm → Prop) (h0 : ∀ env h, I [] env h → P.nx env h)
    (h1 : ∀ x xs env h, I (x :: xs) env h → OP (ptSet env p x) fun env1 => SP (body env1 h) { P with nx := I xs, ct := I xs, bk := P.nx }) : ∀ xs env h, I xs env h → SP (forL p body xs env h) P := by
  first
  | exact W0.forL_inv I h0 h1
  | (simp only [RP_def, OP_def, SP_def, appE, setE] at *; try exact W0.forL_inv I h0 h1)
theorem whl_inv {c : En → Hm → Rs Bool} {body : En → Hm → Rt} {P : Po} (I : Nat → En → Hm → Prop)
    (h1 : ∀ n env h, I n env h → RP (c env h) (fun b h1 => if b = true then SP (body env h1) { P with nx := fun e h => ∃ m, m < n ∧ I m e h, ct := fun e h => ∃ m, m < n ∧ I m e h, bk := P.nx } else P.nx env h1) P.xc) :
    ∀ f n env h, n < f → I n env h → SP (whl c body f env h) P := by
  first
  | exact W0.whl_inv I h1
  | (simp only [RP_def, OP_def, SP_def, appE, setE] at *; try exact W0.whl_inv I h1)
theorem lc_inv {env : En} {p : Pt} {c : En → Hm → Rs Bool} {e : En → Hm → Rs PV} {Q : List PV → Hm → Prop} {E : XV → Hm → Prop} (I : List PV → Hm → List PV → Prop) (h0 : ∀ h acc, I [] h acc → Q acc h)
    (h1 : ∀ x xs h acc, I (x :: xs) h acc → OP (ptSet env p x) fun env' => RP (c env' h) (fun b h1 => if b = true then RP (e env' h1) (fun v h2 => v.nb = true ∧ acc.length < sizeLine ∧ I xs h2 (acc ++ [v])) (fun _ _ => False) else I xs h1 acc) fun _ _ => False) :
    ∀ xs h acc, I xs h acc → RP (noX (lcLoop env p c e xs h acc)) Q E := by
  first
  | exact W0.lc_inv I h0 h1
  | (simp only [RP_def, OP_def, SP_def, appE, setE] at *; try exact W0.lc_inv I h0 h1)
/-- a list written by what is made of each item alone -/
theorem lc_map {env : En} {p : Pt} {c : En → Hm → Rs Bool} {e : En → Hm → Rs PV} {f : PV → PV} {h : Hm} (xs : List PV)
    (h1 : ∀ x ∈ xs, OP (ptSet env p x) fun env' => c env' h = some (.ok true, h) ∧ e env' h = some (.ok (f x), h) ∧ (f x).nb = true) :
    ∀ acc : List PV, acc.length + xs.length ≤ sizeLine → lcLoop env p c e xs h acc = some (.ok (acc ++ xs.map f), h) := by
  first
  | exact W0.lc_map xs h1
  | (simp only [RP_def, OP_def, SP_def, appE, setE] at *; try exact W0.lc_map xs h1)
/-- a loop over what is made of a list -/
theorem forL_map {α : Type} {p : Pt} {body : En → Hm → Rt} {P : Po} (f : α → PV) (I : List α → En → Hm → Prop) (h0 : ∀ env h, I [] env h → P.nx env h)
    (h1 : ∀ x xs env h, I (x :: xs) env h → OP (ptSet env p (f x)) fun env1 => SP (body env1 h) { P with nx := I xs, ct := I xs, bk := P.nx }) : ∀ xs env h, I xs env h → SP (forL p body (xs.map f) env h) P := by
  intro xs env h q
  simp only [OP_def, SP_def] at h1 ⊢
  refine W0.forL_inv (fun l env h => ∃ r, l = r.map f ∧ I r env h) ?_ ?_ _ _ _ ⟨xs, rfl, q⟩
  · rintro env h ⟨r, e, q⟩
    cases r with
    | nil => exact h0 _ _ q
    | cons _ _ => cases e
  · rintro x l env h ⟨r, e, q⟩
    cases r with
    | nil => cases e
    | cons y r =>
      cases e
      have z := h1 y r env h q
      rcases hp : ptSet env p (f y) with _ | env1
      · rw [hp] at z; exact z.elim
      · rw [hp] at z
        exact W0.SP.mono z (fun e h t => ⟨r, rfl, t⟩) (fun e h t => t) (fun e h t => ⟨r, rfl, t⟩) (fun v h t => t) (fun x h t => t)
/-- a loop over a range -/
theorem forL_rng {p : Pt} {body : En → Hm → Rt} {P : Po} {n : Nat} (I : Nat → En → Hm → Prop) (h0 : ∀ env h, I n env h → P.nx env h)
    (h1 : ∀ k env h, k < n → I k env h → OP (ptSet env p (.int k)) fun env1 => SP (body env1 h) { P with nx := I (k + 1), ct := I (k + 1), bk := P.nx }) {env : En} {h : Hm} (q : I 0 env h) : SP (forL p body ((List.range n).map fun k : Nat => .int k) env h) P := by
  refine forL_map (fun k : Nat => PV.int k) (fun l env h => ∃ k, k ≤ n ∧ l = List.range' k (n - k) ∧ I k env h) ?_ ?_ _ _ _ ⟨0, Nat.zero_le _, by rw [List.range_eq_range']; simp, q⟩
  · rintro env h ⟨k, hk, e, q⟩
    have : n - k = 0 := by
      have := congrArg List.length e
      simp at this; omega
    have : k = n := by omega
    exact h0 _ _ (this ▸ q)
  · rintro x l env h ⟨k, hk, e, q⟩
    have hlt : k < n := by
      have := congrArg List.length e
      simp at this; omega
    have hs : n - k = (n - (k + 1)) + 1 := by omega
    rw [hs, List.range'_succ] at e
    cases e
    have z := h1 _ env h hlt q
    simp only [OP_def, SP_def] at z ⊢
    rcases hp : ptSet env p (.int x) with _ | env1
    · rw [hp] at z; exact z.elim
    · rw [hp] at z
      exact W0.SP.mono z (fun e h t => ⟨x + 1, hlt, rfl, t⟩) (fun e h t => t) (fun e h t => ⟨x + 1, hlt, rfl, t⟩) (fun v h t => t) (fun x h t => t)
/-- a list written, each item alone, nothing changed -/
theorem lcp {α : Type} {env : En} {p : Pt} {c : En → Hm → Rs Bool} {e : En → Hm → Rs PV} {h : Hm} {Q : List PV → Hm → Prop} {E : XV → Hm → Prop} (g f : α → PV) {xs : List α} (hl : xs.length ≤ sizeLine)
    (h1 : ∀ x ∈ xs, OP (ptSet env p (g x)) fun env' => RP (c env' h) (fun b h1 => b = true ∧ h1 = h ∧ RP (e env' h) (fun v h2 => h2 = h ∧ v = f x ∧ (f x).nb = true) (fun _ _ => False)) fun _ _ => False) (q : Q (xs.map f) h) :
    RP (noX (lcLoop env p c e (xs.map g) h [])) Q E := by
  have key : ∀ acc : List PV, acc.length + xs.length ≤ sizeLine → lcLoop env p c e (xs.map g) h acc = some (.ok (acc ++ xs.map f), h) := by
    clear q hl
    induction xs with
    | nil => intro acc _; simp [lcLoop, okR]
    | cons x xs ih =>
      intro acc hl
      have s := (h1 x (List.mem_cons_self ..)).out
      rcases hp : ptSet env p (g x) with _ | env1
      · rw [hp] at s; exact s.elim
      · rw [hp] at s
        obtain ⟨b, h2, e1, rfl, rfl, s⟩ := RP.ex (show RP (c env1 h) _ _ from s)
        obtain ⟨v, h3, e2, rfl, rfl, s3⟩ := RP.ex s
        simp only [List.length_cons] at hl
        have : lcLoop env p c e ((x :: xs).map g) h3 acc = lcLoop env p c e (xs.map g) h3 (acc ++ [f x]) := by
          have : acc.length < sizeLine := by omega
          simp [lcLoop, hp, e1, e2, s3, bindR, this]
        rw [this, ih (fun y hy => h1 y (List.mem_cons_of_mem _ hy)) _ (by simp; omega)]
        simp
  rw [key [] (by simpa using hl)]
  simp only [noX, RP_ok]
  exact q
/-- the same, some left out -/
theorem lcf {α : Type} {env : En} {p : Pt} {c : En → Hm → Rs Bool} {e : En → Hm → Rs PV} {h : Hm} {Q : List PV → Hm → Prop} {E : XV → Hm → Prop} (g f : α → PV) (t : α → Bool) {xs : List α} (hl : xs.length ≤ sizeLine)
    (h1 : ∀ x ∈ xs, OP (ptSet env p (g x)) fun env' => RP (c env' h) (fun b h1 => b = t x ∧ h1 = h ∧ (b = true → RP (e env' h) (fun v h2 => h2 = h ∧ v = f x ∧ (f x).nb = true) (fun _ _ => False))) fun _ _ => False) (q : Q ((xs.filter t).map f) h) :
    RP (noX (lcLoop env p c e (xs.map g) h [])) Q E := by
  have key : ∀ acc : List PV, acc.length + xs.length ≤ sizeLine → lcLoop env p c e (xs.map g) h acc = some (.ok (acc ++ (xs.filter t).map f), h) := by
    clear q hl
    induction xs with
    | nil => intro acc _; simp [lcLoop, okR]
    | cons x xs ih =>
      intro acc hl
      have s := (h1 x (List.mem_cons_self ..)).out
      rcases hp : ptSet env p (g x) with _ | env1
      · rw [hp] at s; exact s.elim
      · rw [hp] at s
        obtain ⟨b, h2, e1, e3, rfl, s⟩ := RP.ex (show RP (c env1 h) _ _ from s)
        simp only [List.length_cons] at hl
        cases b with
        | true =>
          obtain ⟨v, h3, e2, rfl, rfl, s3⟩ := RP.ex (s rfl)
          have : lcLoop env p c e ((x :: xs).map g) h3 acc = lcLoop env p c e (xs.map g) h3 (acc ++ [f x]) := by
            have : acc.length < sizeLine := by omega
            simp [lcLoop, hp, e1, e2, s3, bindR, this]
          rw [this, ih (fun y hy => h1 y (List.mem_cons_of_mem _ hy)) _ (by simp; omega), List.filter_cons, ← e3]
          simp
        | false =>
          have : lcLoop env p c e ((x :: xs).map g) h2 acc = lcLoop env p c e (xs.map g) h2 acc := by
            simp [lcLoop, hp, e1, bindR]
          rw [this, ih (fun y hy => h1 y (List.mem_cons_of_mem _ hy)) _ (by omega), List.filter_cons, ← e3]
          simp
  rw [key [] (by simpa using hl)]
  simp only [noX, RP_ok]
  exact q

section
variable {cf : Cf} {env : En} {h : Hm} {E : XV → Hm → Prop}
theorem w_ms {Q : PV → Hm → Prop} {m : Ms} {o : PG.E} {es : Es} : RP (evE cf (.ms m o es) env h) Q E = RP (evE cf o env h) (fun u h1 => OP (stOf u) fun a => RP (evEs cf es env h1) (fun vs h2 => OP (sMt h2 m a vs) fun w => Q w h2) E) E := by
  first
  | exact W0.w_ms
  | (simp only [RP_def, OP_def, SP_def, extE] at *; try exact W0.w_ms)
section
variable {Q : List PV → Hm → Prop}
theorem w_rv1 {e : PG.E} : RP (evI cf (.rv1 e) env h) Q E = RP (evE cf e env h) (fun v h1 => OP (inOf v) fun n => OP (rvItems 0 n) fun xs => Q xs h1) E := by
  first
  | exact W0.w_rv1
  | (simp only [RP_def, OP_def, SP_def, extE] at *; try exact W0.w_rv1)
theorem w_rv2 {a b : PG.E} : RP (evI cf (.rv2 a b) env h) Q E = RP (evE cf a env h) (fun u h1 => RP (evE cf b env h1) (fun v h2 => OP (inOf u) fun m => OP (inOf v) fun n => OP (rvItems m n) fun xs => Q xs h2) E) E := by
  first
  | exact W0.w_rv2
  | (simp only [RP_def, OP_def, SP_def, extE] at *; try exact W0.w_rv2)
theorem w_enu {e : PG.E} : RP (evI cf (.enu e) env h) Q E = RP (evE cf e env h) (fun v h1 => OP (lsOf v) fun xs => Q (enItems xs) h1) E := by
  first
  | exact W0.w_enu
  | (simp only [RP_def, OP_def, SP_def, extE] at *; try exact W0.w_enu)
end
section
variable {P : Po}
theorem w_aug {i : Nat} {op : Bo} {e : PG.E} : SP (evS cf (.aug i op e) env h) P = OP (slGet env i) fun u => RP (evE cf e env h) (fun v h1 => OP (augOp op u v) fun w => if w.nb = true then P.nx (env.set i (.val w)) h1 else False) P.xc := by
  first
  | exact W0.w_aug
  | (simp only [RP_def, OP_def, SP_def, extE] at *; try exact W0.w_aug)
theorem w_popX {i : Nat} : SP (evS cf (.popX i) env h) P = OP (popOf env h i) fun q => P.nx q.2.1 q.2.2 := by
  first
  | exact W0.w_popX
  | (simp only [RP_def, OP_def, SP_def, extE] at *; try exact W0.w_popX)
theorem w_popV {p : Pt} {i : Nat} : SP (evS cf (.popV p i) env h) P = OP (popOf env h i) fun q => OP (ptSet q.2.1 p q.1) fun env2 => P.nx env2 q.2.2 := by
  first
  | exact W0.w_popV
  | (simp only [RP_def, OP_def, SP_def, extE] at *; try exact W0.w_popV)
theorem w_extV {i : Nat} {e : PG.E} : SP (evS cf (.extV i e) env h) P = extE cf e env h i P .mk env[i]? := by
  first
  | exact W0.w_extV
  | (simp only [RP_def, OP_def, SP_def, extE] at *; try exact W0.w_extV)
theorem ext_o {e : PG.E} {xs : List PV} {i : Nat} : extE cf e env h i P .mk (some (.own xs)) = RP (evE cf e env h) (fun v h1 => OP (asLst h1 v) fun zs => if xs.length + zs.length ≤ sizeLine then P.nx (env.set i (.own (xs ++ zs))) h1 else False) P.xc := by
  first
  | exact W0.ext_o
  | (simp only [RP_def, OP_def, SP_def, extE] at *; try exact W0.ext_o)
theorem ext_v {e : PG.E} {u : PV} {i : Nat} : extE cf e env h i P .mk (some (.val u)) = OP (isCell h u) fun n => RP (evE cf e env h) (fun v h1 => OP (asLst h1 v) fun zs => SP (refExt env h1 zs n) P) P.xc := by
  first
  | exact W0.ext_v (i := i)
  | (simp only [RP_def, OP_def, SP_def, extE] at *; try exact W0.ext_v (i := i))
theorem refExt_i {n : Nat} {xs zs : List PV} (e : h[n]? = some (.lst xs)) : SP (refExt env h zs n) P = if xs.length + zs.length ≤ sizeLine then P.nx env (h.set n (.lst (xs ++ zs))) else False := by
  first
  | exact W0.refExt_i e
  | (simp only [RP_def, OP_def, SP_def, extE] at *; try exact W0.refExt_i e)
end
end
theorem stOf_s {a : Str} : stOf (.str a) = some a := rfl
theorem lsOf_l {a : List PV} : lsOf (.lst a) = some a := rfl
theorem asLst_l {h : Hm} {a : List PV} : asLst h (.lst a) = some a := rfl
theorem asLst_b {h : Hm} {a : List PV} : asLst h (.bor a) = some a := rfl
theorem aug_add {a b : Int} : augOp .add (.int a) (.int b) = some (.int (a + b)) := rfl
theorem aug_sub {a b : Int} : augOp .sub (.int a) (.int b) = some (.int (a - b)) := rfl
theorem cOp_inS {h : Hm} {a b : Str} : cOp h .isin (.str a) (.str b) = some (!(Builtin.Str.occurrences b a 0 b.length 1).isEmpty) := rfl
theorem cOp_ninS {h : Hm} {a b : Str} : cOp h .notin (.str a) (.str b) = some (!(!(Builtin.Str.occurrences b a 0 b.length 1).isEmpty)) := rfl
theorem ms_starts {h : Hm} {a b : Str} : sMt h .starts a [.str b] = some (.bl (Txt.startswith a b)) := rfl
theorem ms_find {h : Hm} {a b : Str} : sMt h .find a [.str b] = some (.int (Txt.find a b)) := rfl
theorem max1_l {h : Hm} {xs : List PV} : cBl h .max1 [.lst xs] = (((pInts xs).bind maxL).map .int) := rfl
theorem min1_l {h : Hm} {xs : List PV} : cBl h .min1 [.lst xs] = (((pInts xs).bind minL).map .int) := rfl
end PG


set_option Elab.async false
set_option maxRecDepth 100000
set_option linter.unusedVariables false
/-! PgLib0: the small texts that all laws share. -/
namespace PG.Lib
open PySem L2
def b__law_numbers : Ss := (.cons (.own 1 (.dsp .nil)) (.cons (.fr (.nm 2) (.val (.slc (.var 0) .no (.so (.cst (.int 63))))) (.cons (.ife (.tru (.cmp .ge (.var 2) (.bin .pow (.cst (.int 10)) (.cst (.int 18))))) (.cons (.asg (.nm 3) (.var 2)) (.cons (.fr (.nm 4) (.rg1 (.cst (.int 60))) (.cons (.ife (.tru (.cmp .eq (.var 3) (.cst (.int 0)))) (.cons .brk .nil) .nil) (.cons (.appV 1 (.bin .mod (.blt .int1 (.cons (.var 3) .nil)) (.cst (.int 997)))) (.cons (.asg (.nm 3) (.bin .fdiv (.var 3) (.cst (.int 997)))) .nil)))) .nil)) (.cons (.fr (.nm 4) (.rg1 (.cst (.int 4))) (.cons (.asg (.nm 5) (.bin .mod (.blt .int1 (.cons (.bin .add (.bin .add (.bin .mul (.var 2) (.cst (.int 48271))) (.bin .mul (.var 4) (.cst (.int 69621)))) (.cst (.int 11))) .nil)) (.cst (.int 2147483647)))) (.cons (.appV 1 (.bin .mod (.blt .int1 (.cons (.bin .add (.bin .mul (.var 5) (.cst (.int 16807))) (.var 4)) .nil)) (.cst (.int 2147483629)))) .nil))) .nil)) .nil)) (.cons (.ife (.tru (.cmp .eq (.blt .len (.cons (.var 1) .nil)) (.cst (.int 0)))) (.cons (.appV 1 (.cst (.int 0))) .nil) .nil) (.cons (.frz 1) (.cons (.ret (.var 1)) .nil)))))
def d__law_numbers : FnDef := ⟨1, 6, b__law_numbers⟩
def b__law_draw : Ss := (.cons (.ife (.tru (.cmp .lt (.var 1) (.blt .len (.cons (.var 0) .nil)))) (.cons (.ret (.bin .mod (.blt .int1 (.cons (.idx (.var 0) (.var 1)) .nil)) (.var 2))) .nil) .nil) (.cons (.asg (.nm 3) (.bin .mod (.blt .int1 (.cons (.bin .add (.bin .add (.bin .mul (.idx (.var 0) (.bin .mod (.blt .int1 (.cons (.var 1) .nil)) (.blt .len (.cons (.var 0) .nil)))) (.cst (.int 40692))) (.bin .mul (.var 1) (.cst (.int 7919)))) (.cst (.int 3))) .nil)) (.cst (.int 2147483399)))) (.cons (.ret (.bin .mod (.blt .int1 (.cons (.bin .mod (.blt .int1 (.cons (.bin .add (.bin .mul (.var 3) (.cst (.int 48271))) (.var 1)) .nil)) (.cst (.int 2147483647))) .nil)) (.var 2))) .nil)))
def d__law_draw : FnDef := ⟨3, 4, b__law_draw⟩
def b__law_take : Ss := (.cons (.setV 1 (.cst (.int 0)) (.bin .add (.idx (.var 1) (.cst (.int 0))) (.cst (.int 1)))) (.cons (.ret (.call "_law_draw" (.cons (.var 0) (.cons (.bin .sub (.idx (.var 1) (.cst (.int 0))) (.cst (.int 1))) (.cons (.var 2) .nil))))) .nil))
def d__law_take : FnDef := ⟨3, 3, b__law_take⟩
def b__law_pick : Ss := (.cons (.ret (.idx (.var 2) (.call "_law_take" (.cons (.var 0) (.cons (.var 1) (.cons (.blt .len (.cons (.var 2) .nil)) .nil)))))) .nil)
def d__law_pick : FnDef := ⟨3, 3, b__law_pick⟩
def b__law_so : Ss := (.cons (.ife (.tru (.cmp .is (.var 1) (.cst .non))) (.cons (.ret (.cmp .is (.var 0) (.cst .non))) .nil) .nil) (.cons (.ife (.tru (.blt .isi (.cons (.var 1) (.cons (.bty "tuple") .nil)))) (.cons (.ife (.bop false (.cons (.not (.tru (.blt .isi (.cons (.var 0) (.cons (.bty "tuple") .nil))))) (.cons (.tru (.cmp .ne (.blt .len (.cons (.var 0) .nil)) (.blt .len (.cons (.var 1) .nil)))) .nil))) (.cons (.ret (.cst (.bl false))) .nil) .nil) (.cons (.fr (.nm 2) (.rg1 (.blt .len (.cons (.var 1) .nil))) (.cons (.ife (.not (.tru (.call "_law_so" (.cons (.idx (.var 0) (.var 2)) (.cons (.idx (.var 1) (.var 2)) .nil))))) (.cons (.ret (.cst (.bl false))) .nil) .nil) .nil)) (.cons (.ret (.cst (.bl true))) .nil))) .nil) (.cons (.ife (.bop false (.cons (.tru (.blt .isi (.cons (.var 1) (.cons (.bty "bool") .nil)))) (.cons (.tru (.blt .isi (.cons (.var 0) (.cons (.bty "bool") .nil)))) .nil))) (.cons (.ret (.bop true (.cons (.blt .isi (.cons (.var 1) (.cons (.bty "bool") .nil))) (.cons (.blt .isi (.cons (.var 0) (.cons (.bty "bool") .nil))) (.cons (.cmp .eq (.var 0) (.var 1)) .nil))))) .nil) .nil) (.cons (.ife (.tru (.blt .isi (.cons (.var 1) (.cons (.bty "int") .nil)))) (.cons (.ret (.bop true (.cons (.blt .isi (.cons (.var 0) (.cons (.bty "int") .nil))) (.cons (.cmp .eq (.var 0) (.var 1)) .nil)))) .nil) .nil) (.cons (.ret (.bop true (.cons (.blt .isi (.cons (.var 1) (.cons (.bty "str") .nil))) (.cons (.blt .isi (.cons (.var 0) (.cons (.bty "str") .nil))) (.cons (.cmp .eq (.var 0) (.var 1)) .nil))))) .nil)))))
def d__law_so : FnDef := ⟨2, 3, b__law_so⟩
end PG.Lib


set_option Elab.async false
set_option maxRecDepth 100000
set_option linter.unusedVariables false
/-! PgLib1: what the shared small texts do. -/
namespace PG
open PySem L2
theorem mulOk_r {a b : Int} (h1 : -18446744073709551616 < b) (h2 : b < 18446744073709551616) : mulOk a b = true := by
  unfold mulOk
  exact decide_eq_true (.inr ⟨h1, h2⟩)
theorem mulOk_l {a b : Int} (h1 : -18446744073709551616 < a) (h2 : a < 18446744073709551616) : mulOk a b = true := by
  unfold mulOk
  exact decide_eq_true (.inl ⟨h1, h2⟩)
local macro_rules | `(tactic| walk_at "ev") => `(tactic| simp only [w_var, w_cst, w_glb, w_bty, w_tup, w_lst, w_rf, w_bin, w_neg, w_cmp, w_chn, w_not, w_bop, w_ife, w_idx, w_slc, w_call, w_blt, w_b1, w_b2, w_tru, w_tno, w_tbo, w_t1, w_t2, w_c0, w_c1, w_o0, w_o1, w_e0, w_e1, w_dsp, w_lc, w_lof, w_lrg, w_ival, w_rg1, w_rg2, w_nil, w_cons, w_asg, w_own, w_exp, w_ret, w_retN, w_if, w_whl, w_for, w_brk, w_cnt, w_pass, w_nev, w_frz, w_appV, w_app, w_setV, w_setI, frz_o, frz_v, frz_n, app_o, app_v, set_o, set_v, ownSet_i, negOf_i, blOf_b, inOf_i, itVal_l, itVal_c, itVal_t, itVal_s, asSeq_l, asSeq_b, asSeq_t, slc_s, slc_l, slc_b, slc_c, slc_t, Ret_nx, Ret_rt, Ret_bk, Ret_ct, Ret_xc,
  OP_some, OP_none, OP_map, OP_if, slGet_v, slGet_o, slGet_d, slGet_n, slGet_s, ptSet_z, ptSet_s, ptSet_t, tpSet_n, tpSet_c, nb_non, nb_bl, nb_int, nb_str, nb_tup, nb_lst, nb_ref, nb_scr, nb_bor, List.getElem?_cons_zero, List.getElem?_cons_succ, List.set_cons_zero, List.set_cons_succ, List.length_cons, List.length_nil, List.map_cons, List.map_nil, List.replicate_zero, List.replicate_succ, List.cons_append, List.nil_append,
  bOp_addI, bOp_subI, bOp_mulI, bOp_fdivI, bOp_modI, bOp_powI, bOp_addS, bOp_mulS, bOp_addL, bOp_addBL, bOp_addLB, cOp_ltI, cOp_leI, cOp_gtI, cOp_geI, cOp_eqI, cOp_neI, cOp_eqS, cOp_neS, cOp_eqB, cOp_ltS, cOp_leS, cOp_isN, cOp_isI, cOp_isB, cOp_isS, cOp_isT, cOp_isL, cOp_isnotN, cOp_isnotI, cOp_isnotB, cOp_isnotS, cOp_isnotT, cOp_isnotL,
  truth_non, truth_bl, truth_int, truth_str, truth_lst, truth_tup, truth_bor, cIdx_lst, cIdx_bor, cIdx_tup, cIdx_str, len_lst, len_bor, len_tup, len_str, int_int, min2_int, max2_int, min3_int, tup1_lst, tup1_bor, tup1_tup, isi_non_int, isi_non_bool, isi_non_str, isi_non_tuple, isi_non_list, isi_bl_int, isi_bl_bool, isi_bl_str, isi_bl_tuple, isi_bl_list, isi_int_int, isi_int_bool, isi_int_str, isi_int_tuple, isi_int_list, isi_str_int, isi_str_bool, isi_str_str, isi_str_tuple, isi_str_list, isi_tup_int, isi_tup_bool, isi_tup_str, isi_tup_tuple, isi_tup_list, isi_lst_int, isi_lst_bool, isi_lst_str, isi_lst_tuple, isi_lst_list, isi_bor_int, isi_bor_bool, isi_bor_str, isi_bor_tuple, isi_bor_list,
  List.all_cons, List.all_nil, Option.map_some, Option.map_none, Bool.and_true, Bool.true_and, and_true, true_and, if_true, if_false, reduceIte, Bool.false_eq_true, decide_eq_true_eq, Bool.not_true, Bool.not_false, List.length_map, wipeE, ptSlots, Int.reduceLT, Int.reduceLE, Int.reduceEq, Nat.reduceLT, Nat.reduceLeDiff, Nat.reduceAdd, Int.reduceNeg, Int.reduceToNat, Int.reduceAdd, Int.reduceSub, mulOk_r, Nat.zero_le, and_self, Nat.reduceSub, w_ms, w_rv1, w_rv2, w_enu, w_aug, w_popX, w_popV, w_extV, ext_o, ext_v, stOf_s, lsOf_l, asLst_l, asLst_b, aug_add, aug_sub, cOp_inS, cOp_ninS, ms_starts, ms_find])
theorem atI_nn {α : Type} {xs : List α} {i : Int} (h0 : 0 ≤ i) : atI xs i = xs[i.toNat]? := by
  unfold atI ixN
  rw [if_pos h0]
  split
  · rfl
  · rename_i h
    rw [List.getElem?_eq_none (by omega)]; rfl
theorem atI_get {f : α → PV} {l : List α} {i : Int} (h0 : 0 ≤ i) (h1 : i < l.length) : atI (l.map f) i = some (f (l[i.toNat]'(by omega))) := by
  rw [atI_nn h0, List.getElem?_map, List.getElem?_eq_getElem (by omega)]; rfl
/-- a draw: a number below the bound, nothing is changed -/
theorem draw_ok {T : Tb} {k : Nat} (hT : T "_law_draw" = some Lib.d__law_draw) {row : List Int} (hr : row ≠ []) {i lim : Int} (h0 : 0 ≤ i) (h1 : 0 < lim) {h : Hm} : ∃ v : Int, (0 ≤ v ∧ v < lim) ∧ callF T (k + 1) "_law_draw" [.lst (row.map .int), .int i, .int lim] h = some (.ok (.int v), h) := by
  suffices q : RP (callF T (k + 1) "_law_draw" [.lst (row.map .int), .int i, .int lim] h) (fun a h' => h' = h ∧ ∃ v : Int, (0 ≤ v ∧ v < lim) ∧ a = .int v) fun _ _ => False by
    obtain ⟨a, h', e, rfl, v, h2, rfl⟩ := RP.ex q
    exact ⟨v, h2, e⟩
  have hl : 0 < row.length := List.length_pos_iff.mpr hr
  refine call_rp hT ?_
  unfold Lib.d__law_draw Lib.b__law_draw
  walk_at "ev"
  split
  · rw [atI_get h0 (by omega)]
    walk_at "ev"
    rw [if_pos h1]
    exact ⟨_, ⟨Int.emod_nonneg _ (by omega), Int.emod_lt_of_pos _ h1⟩, rfl⟩
  · have hm := Int.emod_nonneg i (show (row.length : Int) ≠ 0 by omega)
    have hm2 := Int.emod_lt_of_pos i (show 0 < (row.length : Int) by omega)
    rw [if_pos (by omega), atI_get hm (by omega)]
    walk_at "ev"
    rw [if_pos h1]
    exact ⟨_, ⟨Int.emod_nonneg _ (by omega), Int.emod_lt_of_pos _ h1⟩, rfl⟩
/-- _law_take: a draw, the spot moves on -/
theorem take_ok {T : Tb} {k : Nat} (hT1 : T "_law_draw" = some Lib.d__law_draw) (hT : T "_law_take" = some Lib.d__law_take) {row : List Int} (hr : row ≠ []) {n : Nat} {s lim : Int} (h0 : 0 ≤ s) (h1 : 0 < lim) {h : Hm} (hs : h[n]? = some (.lst [.int s])) :
    ∃ v : Int, (0 ≤ v ∧ v < lim) ∧ callF T (k + 2) "_law_take" [.lst (row.map .int), .ref n, .int lim] h = some (.ok (.int v), h.set n (.lst [.int (s + 1)])) := by
  have hn : n < h.length := (List.getElem?_eq_some_iff.mp hs).1
  have hs2 : (h.set n (.lst [.int (s + 1)]))[n]? = some (.lst [.int (s + 1)]) := by rw [List.getElem?_set_self hn]
  suffices q : RP (callF T (k + 2) "_law_take" [.lst (row.map .int), .ref n, .int lim] h) (fun a h' => h' = h.set n (.lst [.int (s + 1)]) ∧ ∃ v : Int, (0 ≤ v ∧ v < lim) ∧ a = .int v) fun _ _ => False by
    obtain ⟨a, h', e, rfl, v, h2, rfl⟩ := RP.ex q
    exact ⟨v, h2, e⟩
  refine call_rp hT ?_
  unfold Lib.d__law_take Lib.b__law_take
  walk_at "ev"
  rw [cIdx_ref hs, show atI [PV.int s] 0 = some (PV.int s) from rfl]
  walk_at "ev"
  rw [refSet_i hs]
  simp only [List.length_cons, List.length_nil, show ixN (0 + 1) 0 = some 0 from rfl]
  walk_at "ev"
  rw [cIdx_ref hs2, show atI [PV.int (s + 1)] 0 = some (PV.int (s + 1)) from rfl]
  walk_at "ev"
  obtain ⟨v, hv, e⟩ := draw_ok (k := k) hT1 hr (show 0 ≤ s + 1 - 1 by omega) h1 (h := h.set n (.lst [.int (s + 1)]))
  rw [RP_eq e]
  walk_at "ev"
  exact ⟨v, hv, rfl⟩
theorem rg0 {n : Int} (h0 : -4611686018427387904 ≤ n) (h1 : n < 4611686018427387904) : rgItems 0 n = some ((List.range n.toNat).map fun k : Nat => PV.int k) := by
  unfold rgItems
  rw [if_pos (by omega), show (n - 0).toNat = n.toNat by omega]
  congr 1
  refine List.map_congr_left fun k _ => ?_
  rw [Int.zero_add]
/-- the row that a script makes: never empty -/
theorem numbers_ok {T : Tb} {k : Nat} (hT : T "_law_numbers" = some Lib.d__law_numbers) (ns : List Int) {h : Hm} : ∃ row : List Int, row ≠ [] ∧ callF T (k + 1) "_law_numbers" [.scr (ns.map .int)] h = some (.ok (.lst (row.map .int)), h) := by
  suffices q : RP (callF T (k + 1) "_law_numbers" [.scr (ns.map .int)] h) (fun a h' => h' = h ∧ ∃ row : List Int, row ≠ [] ∧ a = .lst (row.map .int)) fun _ _ => False by
    obtain ⟨a, h', e, rfl, v, h2, rfl⟩ := RP.ex q
    exact ⟨v, h2, e⟩
  refine call_rp hT ?_
  unfold Lib.d__law_numbers Lib.b__law_numbers
  walk_at "ev"
  have hx : ∃ ms : List Int, cutP (ns.map PV.int) none (some 63) = ms.map .int ∧ ms.length ≤ 63 := by
    refine ⟨(ns.drop 0).take (HT.sIx ns.length ns.length (some 63) - 0), ?_, ?_⟩
    · unfold cutP
      rw [List.length_map, ← List.map_drop, ← List.map_take]; rfl
    · have : HT.sIx ns.length ns.length (some 63) = min 63 ns.length := HT.sIx_nat _ _ 63
      rw [this, List.length_take]; omega
  obtain ⟨ms, e, hms⟩ := hx
  rw [e]
  refine forL_map PV.int (fun r env h' => h' = h ∧ ∃ (acc : List Int) (c l z m : Sl), env = [.val (.scr (ns.map .int)), .own (acc.map .int), c, l, z, m] ∧ acc.length + 60 * r.length ≤ 3780) ?_ ?_ _ _ _ ⟨rfl, [], _, _, _, _, rfl, by simp; omega⟩
  · rintro env h' ⟨rfl, acc, c, l, z, m, rfl, hl⟩
    have hz : acc.length < sizeLine := by unfold sizeLine; omega
    walk_at "ev"
    split
    · exact ⟨acc ++ [0], by simp, by simp⟩
    · rename_i hne
      exact ⟨acc, fun q => hne (by rw [q]; rfl), rfl⟩
  · rintro y r env h' ⟨rfl, acc, c, l, z, m, rfl, hl⟩
    simp only [List.length_cons] at hl
    walk_at "ev"
    rw [if_pos (by decide)]
    split
    · rw [rg0 (by decide) (by decide)]
      walk_at "ev"
      refine forL_rng (fun k env h'' => h'' = h' ∧ ∃ (acc : List Int) (y2 : Int) (z : Sl), env = [.val (.scr (ns.map .int)), .own (acc.map .int), .val (.int y), .val (.int y2), z, m] ∧ acc.length + (60 - k) + 60 * r.length ≤ 3780) ?_ ?_ ⟨rfl, acc, y, z, rfl, by omega⟩
      · rintro env h'' ⟨rfl, acc, y2, z, rfl, hl⟩
        walk_at "ev"
        exact ⟨acc, _, _, _, _, rfl, by omega⟩
      · rintro k env h'' hk ⟨rfl, acc, y2, z, rfl, hl⟩
        have hz : acc.length < sizeLine := by unfold sizeLine; omega
        walk_at "ev"
        split
        · exact ⟨acc, _, _, _, _, rfl, by omega⟩
        · exact ⟨acc ++ [y2 % 997], y2 / 997, .val (.int k), by simp, by simp; omega⟩
    · rw [rg0 (by decide) (by decide)]
      walk_at "ev"
      refine forL_rng (fun k env h'' => h'' = h' ∧ ∃ (acc : List Int) (z m : Sl), env = [.val (.scr (ns.map .int)), .own (acc.map .int), .val (.int y), l, z, m] ∧ acc.length + (4 - k) + 60 * r.length ≤ 3724) ?_ ?_ ⟨rfl, acc, z, m, rfl, by omega⟩
      · rintro env h'' ⟨rfl, acc, z, m, rfl, hl⟩
        walk_at "ev"
        exact ⟨acc, _, _, _, _, rfl, by omega⟩
      · rintro k env h'' hk ⟨rfl, acc, z, m, rfl, hl⟩
        have hz : acc.length < sizeLine := by unfold sizeLine; omega
        walk_at "ev"
        rw [if_pos hz]
        exact ⟨acc ++ [((y * 48271 + k * 69621 + 11) % 2147483647 * 16807 + k) % 2147483629], .val (.int k), .val (.int ((y * 48271 + k * 69621 + 11) % 2147483647)), by simp, by simp; omega⟩
/-- _law_pick: one of the things, the spot moves on -/
theorem pick_ok {T : Tb} {k : Nat} (hT1 : T "_law_draw" = some Lib.d__law_draw) (hT2 : T "_law_take" = some Lib.d__law_take) (hT : T "_law_pick" = some Lib.d__law_pick) {row : List Int} (hr : row ≠ []) {n : Nat} {s : Int} (h0 : 0 ≤ s) {h : Hm} (hs : h[n]? = some (.lst [.int s]))
    {u : PV} {xs : List PV} (hu : u = .lst xs ∨ u = .tup xs) (hx : xs ≠ []) (hb : ∀ x ∈ xs, x.nb = true) : ∃ v ∈ xs, callF T (k + 3) "_law_pick" [.lst (row.map .int), .ref n, u] h = some (.ok v, h.set n (.lst [.int (s + 1)])) := by
  suffices q : RP (callF T (k + 3) "_law_pick" [.lst (row.map .int), .ref n, u] h) (fun a h' => h' = h.set n (.lst [.int (s + 1)]) ∧ a ∈ xs) fun _ _ => False by
    obtain ⟨a, h', e, rfl, h2⟩ := RP.ex q
    exact ⟨a, h2, e⟩
  have hl : 0 < xs.length := List.length_pos_iff.mpr hx
  refine call_rp hT ?_
  unfold Lib.d__law_pick Lib.b__law_pick
  obtain ⟨v, ⟨hv, hv2⟩, e⟩ := take_ok (k := k) hT1 hT2 hr h0 (show (0 : Int) < xs.length by omega) hs
  have hm : xs[v.toNat]'(by omega) ∈ xs := List.getElem_mem _
  rcases hu with rfl | rfl
  all_goals
    walk_at "ev"
    rw [RP_eq e]
    walk_at "ev"
    rw [atI_nn hv, List.getElem?_eq_getElem (by omega)]
    walk_at "ev"
    rw [if_pos (hb _ hm)]
    exact hm
/-- the same of a text -/
theorem pickS_ok {T : Tb} {k : Nat} (hT1 : T "_law_draw" = some Lib.d__law_draw) (hT2 : T "_law_take" = some Lib.d__law_take) (hT : T "_law_pick" = some Lib.d__law_pick) {row : List Int} (hr : row ≠ []) {n : Nat} {s : Int} (h0 : 0 ≤ s) {h : Hm} (hs : h[n]? = some (.lst [.int s]))
    {z : Str} (hx : 0 < z.length) : ∃ c ∈ z.cps.toList, callF T (k + 3) "_law_pick" [.lst (row.map .int), .ref n, .str z] h = some (.ok (.str ⟨#[c]⟩), h.set n (.lst [.int (s + 1)])) := by
  suffices q : RP (callF T (k + 3) "_law_pick" [.lst (row.map .int), .ref n, .str z] h) (fun a h' => h' = h.set n (.lst [.int (s + 1)]) ∧ ∃ c ∈ z.cps.toList, a = .str ⟨#[c]⟩) fun _ _ => False by
    obtain ⟨a, h', e, rfl, c, h2, rfl⟩ := RP.ex q
    exact ⟨c, h2, e⟩
  have hl : z.cps.toList.length = z.length := Array.length_toList ..
  refine call_rp hT ?_
  unfold Lib.d__law_pick Lib.b__law_pick
  obtain ⟨v, ⟨hv, hv2⟩, e⟩ := take_ok (k := k) hT1 hT2 hr h0 (show (0 : Int) < z.length by omega) hs
  have hm : z.cps.toList[v.toNat]'(by omega) ∈ z.cps.toList := List.getElem_mem _
  walk_at "ev"
  rw [RP_eq e]
  walk_at "ev"
  rw [atI_nn hv, List.getElem?_eq_getElem (by omega)]
  walk_at "ev"
  exact ⟨_, hm, rfl⟩
theorem so_int {T : Tb} {k : Nat} (hT : T "_law_so" = some Lib.d__law_so) {a b : Int} {h : Hm} : callF T (k + 1) "_law_so" [.int a, .int b] h = some (.ok (.bl (decide (a = b))), h) := by
  suffices q : RP (callF T (k + 1) "_law_so" [.int a, .int b] h) (fun v h' => h' = h ∧ v = .bl (decide (a = b))) fun _ _ => False by
    obtain ⟨_, _, e, rfl, rfl⟩ := RP.ex q
    exact e
  refine call_rp hT ?_
  unfold Lib.d__law_so Lib.b__law_so
  walk_at "ev"
end PG


set_option Elab.async false
set_option maxRecDepth 100000
set_option linter.unusedVariables false
/-! PgLib2: texts as lists of their signs. -/
namespace PG
open PySem L2
abbrev mkS (l : List Nat) : Str := ⟨l.toArray⟩
theorem mkS_eq (s : Str) : s = mkS s.cps.toList := rfl
theorem mkS_list {l : List Nat} : (mkS l).cps.toList = l := rfl
theorem mkS_len {l : List Nat} : (mkS l).length = l.length := rfl
theorem mkS_inj {l r : List Nat} : mkS l = mkS r ↔ l = r := ⟨fun h => by have := congrArg (fun s : Str => s.cps.toList) h; exact this, fun h => by rw [h]⟩
theorem one_inj {c d : Nat} : (mkS [c] = mkS [d]) = (c = d) := by rw [mkS_inj]; simp
theorem mkS_app {l r : List Nat} : mkS l ++ mkS r = mkS (l ++ r) := by
  show Str.append _ _ = _
  unfold Str.append
  simp
theorem mkS_one {c : Nat} : (⟨#[c]⟩ : Str) = mkS [c] := rfl
theorem sIx_some {n d : Nat} {i : Int} (h : 0 ≤ i) : HT.sIx n d (some i) = min i.toNat n := by
  show (if i < 0 then (i + (n : Int)).toNat else min i.toNat n) = _
  rw [if_neg (by omega)]
theorem cutS_to {l : List Nat} {i : Int} (h : 0 ≤ i) : cutSt (mkS l) none (some i) = mkS (l.take i.toNat) := by
  unfold cutSt
  rw [mkS_len, sIx_some h, show HT.sIx l.length 0 none = 0 from rfl, mkS_list, List.drop_zero, Nat.sub_zero]
  congr 2
  rw [List.take_eq_take_min]
  simp [Nat.min_comm]
theorem cutS_from {l : List Nat} {i : Int} (h : 0 ≤ i) : cutSt (mkS l) (some i) none = mkS (l.drop i.toNat) := by
  unfold cutSt
  rw [mkS_len, sIx_some h, show HT.sIx l.length l.length none = l.length from rfl, mkS_list]
  congr 2
  by_cases q : i.toNat ≤ l.length
  · rw [Nat.min_eq_left q, List.take_of_length_le (by simp)]
  · rw [Nat.min_eq_right (by omega), List.drop_of_length_le (Nat.le_refl _), List.drop_of_length_le (by omega)]; simp
theorem idxS {h : Hm} {l : List Nat} {i : Int} (h0 : 0 ≤ i) (h1 : i < l.length) : cIdx h (.str (mkS l)) (.int i) = some (.str (mkS [l[i.toNat]'(by omega)])) := by
  rw [cIdx_str, mkS_list, atI_nn h0, List.getElem?_eq_getElem (by omega)]; rfl
theorem lt_one {a b : Nat} : ([a] < [b]) ↔ a < b := by
  rw [List.cons_lt_cons_iff]
  simp
theorem pure_of {α : Type} {r : Rs α} {v : α} {h : Hm} (q : RP r (fun a h' => h' = h ∧ a = v) fun _ _ => False) : r = some (.ok v, h) := by
  obtain ⟨a, h', e, rfl, rfl⟩ := RP.ex q
  exact e
theorem atI_ge {xs : List PV} {i : Int} {v : PV} (h0 : 0 ≤ i) (h : xs[i.toNat]? = some v) : atI xs i = some v := by rw [atI_nn h0, h]
theorem strRep_mk {l : List Nat} {n : Nat} : strRep (mkS l) n = mkS (List.replicate n l).flatten := rfl
end PG


set_option Elab.async false
set_option maxRecDepth 100000
set_option linter.unusedVariables false
/-! PgLib3: _law_so of a value and itself; texts in texts. -/
namespace PG
open PySem L2
local macro_rules | `(tactic| walk_at "ev") => `(tactic| simp only [w_var, w_cst, w_glb, w_bty, w_tup, w_lst, w_rf, w_bin, w_neg, w_cmp, w_chn, w_not, w_bop, w_ife, w_idx, w_slc, w_call, w_blt, w_b1, w_b2, w_tru, w_tno, w_tbo, w_t1, w_t2, w_c0, w_c1, w_o0, w_o1, w_e0, w_e1, w_dsp, w_lc, w_lof, w_lrg, w_ival, w_rg1, w_rg2, w_nil, w_cons, w_asg, w_own, w_exp, w_ret, w_retN, w_if, w_whl, w_for, w_brk, w_cnt, w_pass, w_nev, w_frz, w_appV, w_app, w_setV, w_setI, frz_o, frz_v, frz_n, app_o, app_v, set_o, set_v, ownSet_i, negOf_i, blOf_b, inOf_i, itVal_l, itVal_c, itVal_t, itVal_s, asSeq_l, asSeq_b, asSeq_t, slc_s, slc_l, slc_b, slc_c, slc_t, Ret_nx, Ret_rt, Ret_bk, Ret_ct, Ret_xc,
  OP_some, OP_none, OP_map, OP_if, slGet_v, slGet_o, slGet_d, slGet_n, slGet_s, ptSet_z, ptSet_s, ptSet_t, tpSet_n, tpSet_c, nb_non, nb_bl, nb_int, nb_str, nb_tup, nb_lst, nb_ref, nb_scr, nb_bor, List.getElem?_cons_zero, List.getElem?_cons_succ, List.set_cons_zero, List.set_cons_succ, List.length_cons, List.length_nil, List.map_cons, List.map_nil, List.replicate_zero, List.replicate_succ, List.cons_append, List.nil_append,
  bOp_addI, bOp_subI, bOp_mulI, bOp_fdivI, bOp_modI, bOp_powI, bOp_addS, bOp_mulS, bOp_addL, bOp_addBL, bOp_addLB, cOp_ltI, cOp_leI, cOp_gtI, cOp_geI, cOp_eqI, cOp_neI, cOp_eqS, cOp_neS, cOp_eqB, cOp_ltS, cOp_leS, cOp_isN, cOp_isI, cOp_isB, cOp_isS, cOp_isT, cOp_isL, cOp_isnotN, cOp_isnotI, cOp_isnotB, cOp_isnotS, cOp_isnotT, cOp_isnotL,
  truth_non, truth_bl, truth_int, truth_str, truth_lst, truth_tup, truth_bor, cIdx_lst, cIdx_bor, cIdx_tup, cIdx_str, len_lst, len_bor, len_tup, len_str, int_int, min2_int, max2_int, min3_int, tup1_lst, tup1_bor, tup1_tup, isi_non_int, isi_non_bool, isi_non_str, isi_non_tuple, isi_non_list, isi_bl_int, isi_bl_bool, isi_bl_str, isi_bl_tuple, isi_bl_list, isi_int_int, isi_int_bool, isi_int_str, isi_int_tuple, isi_int_list, isi_str_int, isi_str_bool, isi_str_str, isi_str_tuple, isi_str_list, isi_tup_int, isi_tup_bool, isi_tup_str, isi_tup_tuple, isi_tup_list, isi_lst_int, isi_lst_bool, isi_lst_str, isi_lst_tuple, isi_lst_list, isi_bor_int, isi_bor_bool, isi_bor_str, isi_bor_tuple, isi_bor_list,
  List.all_cons, List.all_nil, Option.map_some, Option.map_none, Bool.and_true, Bool.true_and, and_true, true_and, if_true, if_false, reduceIte, Bool.false_eq_true, decide_eq_true_eq, Bool.not_true, Bool.not_false, List.length_map, wipeE, ptSlots, Int.reduceLT, Int.reduceLE, Int.reduceEq, Nat.reduceLT, Nat.reduceLeDiff, Nat.reduceAdd, Int.reduceNeg, Int.reduceToNat, Int.reduceAdd, Int.reduceSub, mulOk_r, Nat.zero_le, and_self, Nat.reduceSub, w_ms, w_rv1, w_rv2, w_enu, w_aug, w_popX, w_popV, w_extV, ext_o, ext_v, stOf_s, lsOf_l, asLst_l, asLst_b, aug_add, aug_sub, cOp_inS, cOp_ninS, ms_starts, ms_find])
/-- a plain value: tuples of plain values, n deep -/
def plainV : Nat → PV → Bool
  | _, .non => true
  | _, .bl _ => true
  | _, .int _ => true
  | _, .str _ => true
  | n + 1, .tup xs => decide (xs.length ≤ sizeLine) && xs.all (plainV n)
  | _, _ => false
theorem plainV_nb {n : Nat} {v : PV} (h : plainV n v = true) : v.nb = true := by
  cases v <;> first | rfl | (cases n <;> cases h)
theorem so_refl {T : Tb} (hT : T "_law_so" = some Lib.d__law_so) {h : Hm} : ∀ (n : Nat) (k : Nat) (v : PV), plainV n v = true → callF T (k + n + 1) "_law_so" [v, v] h = some (.ok (.bl true), h) := by
  intro n
  induction n with
  | zero =>
    intro k v hv
    cases v <;> first | (cases hv; done) | skip
    all_goals
      refine pure_of (call_rp hT ?_)
      unfold Lib.d__law_so Lib.b__law_so
      walk_at "ev"
      try simp
  | succ n ih =>
    intro k v hv
    cases v <;> first | (cases hv; done) | skip
    case tup xs =>
      obtain ⟨h1, h2⟩ := Bool.and_eq_true_iff.mp (show (decide (xs.length ≤ sizeLine) && xs.all (plainV n)) = true from hv)
      have hl := of_decide_eq_true h1
      have hl2 : xs.length ≤ 16777216 := hl
      refine pure_of (call_rp hT ?_)
      unfold Lib.d__law_so Lib.b__law_so
      walk_at "ev"
      simp only [decide_true]
      walk_at "ev"
      rw [rg0 (by omega) (by omega), Int.toNat_natCast]
      walk_at "ev"
      refine forL_rng (fun j env h' => h' = h ∧ ∃ z, env = [.val (.tup xs), .val (.tup xs), z]) ?_ ?_ ⟨rfl, _, rfl⟩
      · rintro env h' ⟨rfl, z, rfl⟩
        walk_at "ev"
      · rintro j env h' hj ⟨rfl, z, rfl⟩
        have pj := List.all_eq_true.mp h2 _ (List.getElem_mem hj)
        walk_at "ev"
        rw [atI_nn (show (0 : Int) ≤ j by omega), List.getElem?_eq_getElem (show (j : Int).toNat < xs.length by omega)]
        simp only [Int.toNat_natCast]
        walk_at "ev"
        rw [atI_nn (show (0 : Int) ≤ j by omega), List.getElem?_eq_getElem (show (j : Int).toNat < xs.length by omega)]
        simp only [Int.toNat_natCast]
        walk_at "ev"
        simp only [plainV_nb pj, Bool.true_and, Bool.and_true]
        walk_at "ev"
        rw [RP_eq (by have := ih k _ pj; rwa [show k + n + 1 = k + (n + 1) by omega] at this)]
        walk_at "ev"
        exact ⟨_, rfl⟩
    all_goals
      refine pure_of (call_rp hT ?_)
      unfold Lib.d__law_so Lib.b__law_so
      walk_at "ev"
      try simp
end PG


set_option Elab.async false
set_option maxRecDepth 100000
set_option linter.unusedVariables false
/-! PgLib4: draws, read backwards; words that are drawn. -/
namespace PG.Lib
open PySem L2
def b__law_word : Ss := (.cons (.asg (.nm 2) (.cst (.str (Str.ofString "")))) (.cons (.fr (.nm 3) (.rg1 (.bin .add (.cst (.int 1)) (.call "_law_take" (.cons (.var 0) (.cons (.var 1) (.cons (.ife (.tru (.cmp .gt (.call "_law_take" (.cons (.var 0) (.cons (.var 1) (.cons (.cst (.int 8)) .nil)))) (.cst (.int 0)))) (.cst (.int 5)) (.cst (.int 20))) .nil)))))) (.cons (.asg (.nm 2) (.bin .add (.var 2) (.call "_law_pick" (.cons (.var 0) (.cons (.var 1) (.cons (.lst (.dsp (.cons (.cst (.str (Str.ofString "a"))) (.cons (.cst (.str (Str.ofString "b"))) (.cons (.cst (.str (Str.ofString "c"))) (.cons (.idx (.cst (.str (Str.ofString "abcdefghijklmnopqrstuvwxyz0123456789"))) (.call "_law_take" (.cons (.var 0) (.cons (.var 1) (.cons (.cst (.int 36)) .nil))))) .nil)))))) .nil)))))) .nil)) (.cons (.ret (.slc (.var 2) .no (.so (.cst (.int 20))))) .nil)))
def d__law_word : FnDef := ⟨2, 4, b__law_word⟩
end PG.Lib
namespace PG
open PySem L2
local macro_rules | `(tactic| walk_at "ev") => `(tactic| simp only [w_var, w_cst, w_glb, w_bty, w_tup, w_lst, w_rf, w_bin, w_neg, w_cmp, w_chn, w_not, w_bop, w_ife, w_idx, w_slc, w_call, w_blt, w_b1, w_b2, w_tru, w_tno, w_tbo, w_t1, w_t2, w_c0, w_c1, w_o0, w_o1, w_e0, w_e1, w_dsp, w_lc, w_lof, w_lrg, w_ival, w_rg1, w_rg2, w_nil, w_cons, w_asg, w_own, w_exp, w_ret, w_retN, w_if, w_whl, w_for, w_brk, w_cnt, w_pass, w_nev, w_frz, w_appV, w_app, w_setV, w_setI, frz_o, frz_v, frz_n, app_o, app_v, set_o, set_v, ownSet_i, negOf_i, blOf_b, inOf_i, itVal_l, itVal_c, itVal_t, itVal_s, asSeq_l, asSeq_b, asSeq_t, slc_s, slc_l, slc_b, slc_c, slc_t, Ret_nx, Ret_rt, Ret_bk, Ret_ct, Ret_xc,
  OP_some, OP_none, OP_map, OP_if, slGet_v, slGet_o, slGet_d, slGet_n, slGet_s, ptSet_z, ptSet_s, ptSet_t, tpSet_n, tpSet_c, nb_non, nb_bl, nb_int, nb_str, nb_tup, nb_lst, nb_ref, nb_scr, nb_bor, List.getElem?_cons_zero, List.getElem?_cons_succ, List.set_cons_zero, List.set_cons_succ, List.length_cons, List.length_nil, List.map_cons, List.map_nil, List.replicate_zero, List.replicate_succ, List.cons_append, List.nil_append,
  bOp_addI, bOp_subI, bOp_mulI, bOp_fdivI, bOp_modI, bOp_powI, bOp_addS, bOp_mulS, bOp_addL, bOp_addBL, bOp_addLB, cOp_ltI, cOp_leI, cOp_gtI, cOp_geI, cOp_eqI, cOp_neI, cOp_eqS, cOp_neS, cOp_eqB, cOp_ltS, cOp_leS, cOp_isN, cOp_isI, cOp_isB, cOp_isS, cOp_isT, cOp_isL, cOp_isnotN, cOp_isnotI, cOp_isnotB, cOp_isnotS, cOp_isnotT, cOp_isnotL,
  truth_non, truth_bl, truth_int, truth_str, truth_lst, truth_tup, truth_bor, cIdx_lst, cIdx_bor, cIdx_tup, cIdx_str, len_lst, len_bor, len_tup, len_str, int_int, min2_int, max2_int, min3_int, tup1_lst, tup1_bor, tup1_tup, isi_non_int, isi_non_bool, isi_non_str, isi_non_tuple, isi_non_list, isi_bl_int, isi_bl_bool, isi_bl_str, isi_bl_tuple, isi_bl_list, isi_int_int, isi_int_bool, isi_int_str, isi_int_tuple, isi_int_list, isi_str_int, isi_str_bool, isi_str_str, isi_str_tuple, isi_str_list, isi_tup_int, isi_tup_bool, isi_tup_str, isi_tup_tuple, isi_tup_list, isi_lst_int, isi_lst_bool, isi_lst_str, isi_lst_tuple, isi_lst_list, isi_bor_int, isi_bor_bool, isi_bor_str, isi_bor_tuple, isi_bor_list,
  List.all_cons, List.all_nil, Option.map_some, Option.map_none, Bool.and_true, Bool.true_and, and_true, true_and, if_true, if_false, reduceIte, Bool.false_eq_true, decide_eq_true_eq, Bool.not_true, Bool.not_false, List.length_map, wipeE, ptSlots, Int.reduceLT, Int.reduceLE, Int.reduceEq, Nat.reduceLT, Nat.reduceLeDiff, Nat.reduceAdd, Int.reduceNeg, Int.reduceToNat, Int.reduceAdd, Int.reduceSub, mulOk_r, Nat.zero_le, and_self, Nat.reduceSub, w_ms, w_rv1, w_rv2, w_enu, w_aug, w_popX, w_popV, w_extV, ext_o, ext_v, stOf_s, lsOf_l, asLst_l, asLst_b, aug_add, aug_sub, cOp_inS, cOp_ninS, ms_starts, ms_find])
/-- the texts that a law shares with the others -/
structure Sh (T : Tb) : Prop where
  draw : T "_law_draw" = some Lib.d__law_draw
  take : T "_law_take" = some Lib.d__law_take
  pick : T "_law_pick" = some Lib.d__law_pick
  so : T "_law_so" = some Lib.d__law_so
  numbers : T "_law_numbers" = some Lib.d__law_numbers
theorem s_a : Str.ofString "a" = mkS [97] := by decide +kernel
theorem s_b : Str.ofString "b" = mkS [98] := by decide +kernel
theorem s_c : Str.ofString "c" = mkS [99] := by decide +kernel
theorem s_z : Str.ofString "z" = mkS [122] := by decide +kernel
theorem s_0 : Str.ofString "0" = mkS [48] := by decide +kernel
theorem s_9 : Str.ofString "9" = mkS [57] := by decide +kernel
theorem s_e : Str.ofString "" = mkS [] := by decide +kernel
section
variable {T : Tb} {k : Nat} {h : Hm}
/-- a word -/
def Wd (l : List Nat) : Prop := 1 ≤ l.length ∧ l.length ≤ 20 ∧ ∀ c ∈ l, (97 ≤ c ∧ c ≤ 122) ∨ (48 ≤ c ∧ c ≤ 57)
/-- the spot: a cell with a number -/
def At (h : Hm) (n : Nat) (s : Int) : Prop := h[n]? = some (.lst [.int s]) ∧ 0 ≤ s
theorem At.step {n : Nat} {s : Int} (a : At h n s) : At (h.set n (.lst [.int (s + 1)])) n (s + 1) :=
  ⟨by rw [List.getElem?_set_self (List.getElem?_eq_some_iff.mp a.1).1], by have := a.2; omega⟩
theorem take_x (S : Sh T) {n : Nat} {s : Int} {row : List Int} (hr : row ≠ []) (a : At h n s) {lim : Int} (hl : 0 < lim) {Q : PV → Hm → Prop} {E : XV → Hm → Prop} (q : ∀ v h' s', 0 ≤ v → v < lim → At h' n s' → Q (.int v) h') : RP (callF T (k + 2) "_law_take" [.lst (row.map .int), .ref n, .int lim] h) Q E := by
  obtain ⟨v, hv, e⟩ := take_ok (k := k) S.draw S.take hr a.2 hl a.1
  rw [RP_eq e]
  exact q v _ _ hv.1 hv.2 a.step
theorem pick_x (S : Sh T) {n : Nat} {s : Int} {row : List Int} (hr : row ≠ []) (a : At h n s) {xs : List PV} (hx : xs ≠ []) (hb : ∀ x ∈ xs, x.nb = true) {Q : PV → Hm → Prop} {E : XV → Hm → Prop} (q : ∀ v h' s', v ∈ xs → At h' n s' → Q v h') : RP (callF T (k + 3) "_law_pick" [.lst (row.map .int), .ref n, .lst xs] h) Q E := by
  obtain ⟨v, hv, e⟩ := pick_ok (k := k) S.draw S.take S.pick hr a.2 a.1 (.inl rfl) hx hb
  rw [RP_eq e]
  exact q v _ _ hv a.step
def Sg (c : Nat) : Prop := (97 ≤ c ∧ c ≤ 122) ∨ (48 ≤ c ∧ c ≤ 57)
def alnum : List Nat := [97,98,99,100,101,102,103,104,105,106,107,108,109,110,111,112,113,114,115,116,117,118,119,120,121,122,48,49,50,51,52,53,54,55,56,57]
theorem s_alnum : Str.ofString "abcdefghijklmnopqrstuvwxyz0123456789" = mkS alnum := by decide +kernel
theorem alnum_ok : ∀ c ∈ alnum, Sg c := by unfold Sg alnum; decide
theorem lword_x (S : Sh T) (t_lword : T "_law_word" = some Lib.d__law_word) {n : Nat} {s : Int} {row : List Int} (hr : row ≠ []) (a : At h n s) {Q : PV → Hm → Prop} {E : XV → Hm → Prop} (q : ∀ l h' s', Wd l → At h' n s' → Q (.str (mkS l)) h') : RP (callF T (k + 4) "_law_word" [.lst (row.map .int), .ref n] h) Q E := by
  refine call_rp t_lword ?_
  unfold Lib.d__law_word Lib.b__law_word
  simp only [s_a, s_b, s_c, s_e, s_alnum]
  walk_at "ev"
  refine take_x S hr a (by decide) fun v h1 s1 v0 v1 a1 => ?_
  walk_at "ev"
  split
  all_goals
    refine take_x S hr a1 (by decide) fun v h2 s2 v0 v1 a2 => ?_
    have hv : v < 20 := by omega
    walk_at "ev"
    rw [rg0 (by omega) (by omega)]
    walk_at "ev"
    refine forL_rng (fun j env h' => ∃ l s', l.length = j ∧ (∀ c ∈ l, Sg c) ∧ At h' n s' ∧ ∃ z, env = [.val (.lst (row.map .int)), .val (.ref n), .val (.str (mkS l)), z]) ?_ ?_ ⟨[], _, rfl, (fun c hc => by cases hc), a2, _, rfl⟩
    · rintro env h' ⟨l, s', hl, hs, a', z, rfl⟩
      walk_at "ev"
      rw [cutS_to (by decide)]
      refine q _ _ _ ⟨?_, ?_, fun c hc => hs c (List.mem_of_mem_take hc)⟩ a'
      · rw [List.length_take]; simp; omega
      · rw [List.length_take]; simp; omega
    · rintro j env h' hj ⟨l, s', hl, hs, a', z, rfl⟩
      walk_at "ev"
      refine take_x S hr a' (by decide) fun w h3 s3 w0 w1 a3 => ?_
      walk_at "ev"
      have hw : w.toNat < alnum.length := by have : alnum.length = 36 := rfl; omega
      rw [atI_nn w0, List.getElem?_eq_getElem hw]
      walk_at "ev"
      rw [if_pos (by unfold sizeLine; decide)]
      refine pick_x S hr a3 (by simp) (by simp [PV.nb]) fun x h4 s4 hx a4 => ?_
      have hx : ∃ c, Sg c ∧ x = .str (mkS [c]) := by
        simp only [List.mem_cons, List.not_mem_nil, or_false] at hx
        rcases hx with rfl | rfl | rfl | rfl
        · exact ⟨97, by unfold Sg; omega, rfl⟩
        · exact ⟨98, by unfold Sg; omega, rfl⟩
        · exact ⟨99, by unfold Sg; omega, rfl⟩
        · exact ⟨_, alnum_ok _ (List.getElem_mem hw), rfl⟩
      obtain ⟨c, hc, rfl⟩ := hx
      walk_at "ev"
      rw [mkS_app, fit_of (by rw [mkS_len, mkS_len]; unfold sizeLine; simp; omega)]
      walk_at "ev"
      refine ⟨l ++ [c], _, by simp; omega, fun d hd => ?_, a4, _, rfl⟩
      rcases List.mem_append.mp hd with hd | hd
      · exact hs d hd
      · rw [List.mem_singleton.mp hd]; exact hc
theorem pickS_x (S : Sh T) {n : Nat} {s : Int} {row : List Int} (hr : row ≠ []) (a : At h n s) {l : List Nat} (hx : l ≠ []) {Q : PV → Hm → Prop} {E : XV → Hm → Prop} (q : ∀ c h' s', c ∈ l → At h' n s' → Q (.str (mkS [c])) h') : RP (callF T (k + 3) "_law_pick" [.lst (row.map .int), .ref n, .str (mkS l)] h) Q E := by
  obtain ⟨c, hc, e⟩ := pickS_ok (k := k) S.draw S.take S.pick hr a.2 a.1 (z := mkS l) (by rw [mkS_len]; exact List.length_pos_iff.mpr hx)
  rw [RP_eq e]
  exact q c _ _ hc a.step
/-- a sign of a text, drawn -/
theorem sign_x (S : Sh T) {n : Nat} {s : Int} {row : List Int} (hr : row ≠ []) (a : At h n s) {l : List Nat} {m : Int} (hm : m = l.length) (h0 : 0 < m) {Q : PV → Hm → Prop} {E : XV → Hm → Prop} (q : ∀ v h' s' c, 0 ≤ v → atI l v = some c → c ∈ l → At h' n s' → Q (.int v) h') : RP (callF T (k + 2) "_law_take" [.lst (row.map .int), .ref n, .int m] h) Q E := by
  refine take_x S hr a h0 fun v h' s' v0 v1 a' => ?_
  have hv : v.toNat < l.length := by omega
  exact q v h' s' _ v0 (by rw [atI_nn v0, List.getElem?_eq_getElem hv]) (List.getElem_mem hv) a'
end
end PG


set_option Elab.async false
set_option maxRecDepth 100000
set_option linter.unusedVariables false
namespace PG.K43
open PySem L2 PyProof.Rows
/-- the text's i-th statement -/
def top (i : Nat) : Stmt := PySem.Challenge.pw_pagestead_k43_words_of_texts.main.body.getD i (.Pass ⟨0, 0, 0, 0⟩)
def b_law : Ss := (.cons (.asg (.nm 1) (.call "_law_numbers" (.cons (.var 0) .nil))) (.cons (.asg (.nm 2) (.rf (.dsp (.cons (.cst (.int 0)) .nil)))) (.cons (.asg (.nm 3) (.lst (.cmp (.nm 5) (.rg1 (.cst (.int 4))) .no (.call "_law_word" (.cons (.var 1) (.cons (.var 2) .nil)))))) (.cons (.asg (.nm 4) (.bin .add (.call "_law_prose" (.cons (.var 1) (.cons (.var 2) (.cons (.var 3) (.cons (.cst (.int 12)) .nil))))) (.call "_law_signs" (.cons (.var 1) (.cons (.var 2) (.cons (.cst (.int 8)) .nil)))))) (.cons (.ret (.bop true (.cons (.call "_law_so" (.cons (.call "words_of" (.cons (.var 4) .nil)) (.cons (.blt .tup1 (.cons (.call "_law_words_of" (.cons (.var 4) .nil)) .nil)) .nil))) (.cons (.call "_law_so" (.cons (.call "words_of" (.cons (.cst (.str (Str.ofString ""))) .nil)) (.cons (.tup .nil) .nil))) (.cons (.call "_law_so" (.cons (.call "words_of" (.cons (.cst (.str (Str.ofString "A1b-C"))) .nil)) (.cons (.tup (.cons (.cst (.str (Str.ofString "a1b"))) (.cons (.cst (.str (Str.ofString "c"))) .nil))) .nil))) .nil))))) .nil)))))
def d_law : FnDef := ⟨1, 6, b_law⟩
def D_law : Df := ⟨"law", [(Str.ofString "script")], [(Str.ofString "script"), (Str.ofString "row"), (Str.ofString "spot"), (Str.ofString "words"), (Str.ofString "text"), (Str.ofString "k")], top 28, d_law⟩
def b__law_numbers : Ss := (.cons (.own 1 (.dsp .nil)) (.cons (.fr (.nm 2) (.val (.slc (.var 0) .no (.so (.cst (.int 63))))) (.cons (.ife (.tru (.cmp .ge (.var 2) (.bin .pow (.cst (.int 10)) (.cst (.int 18))))) (.cons (.asg (.nm 3) (.var 2)) (.cons (.fr (.nm 4) (.rg1 (.cst (.int 60))) (.cons (.ife (.tru (.cmp .eq (.var 3) (.cst (.int 0)))) (.cons .brk .nil) .nil) (.cons (.appV 1 (.bin .mod (.blt .int1 (.cons (.var 3) .nil)) (.cst (.int 997)))) (.cons (.asg (.nm 3) (.bin .fdiv (.var 3) (.cst (.int 997)))) .nil)))) .nil)) (.cons (.fr (.nm 4) (.rg1 (.cst (.int 4))) (.cons (.asg (.nm 5) (.bin .mod (.blt .int1 (.cons (.bin .add (.bin .add (.bin .mul (.var 2) (.cst (.int 48271))) (.bin .mul (.var 4) (.cst (.int 69621)))) (.cst (.int 11))) .nil)) (.cst (.int 2147483647)))) (.cons (.appV 1 (.bin .mod (.blt .int1 (.cons (.bin .add (.bin .mul (.var 5) (.cst (.int 16807))) (.var 4)) .nil)) (.cst (.int 2147483629)))) .nil))) .nil)) .nil)) (.cons (.ife (.tru (.cmp .eq (.blt .len (.cons (.var 1) .nil)) (.cst (.int 0)))) (.cons (.appV 1 (.cst (.int 0))) .nil) .nil) (.cons (.frz 1) (.cons (.ret (.var 1)) .nil)))))
def d__law_numbers : FnDef := ⟨1, 6, b__law_numbers⟩
def D__law_numbers : Df := ⟨"_law_numbers", [(Str.ofString "script")], [(Str.ofString "script"), (Str.ofString "row"), (Str.ofString "cell"), (Str.ofString "left"), (Str.ofString "k"), (Str.ofString "mixed")], top 20, d__law_numbers⟩
def b__law_word : Ss := (.cons (.asg (.nm 2) (.cst (.str (Str.ofString "")))) (.cons (.fr (.nm 3) (.rg1 (.bin .add (.cst (.int 1)) (.call "_law_take" (.cons (.var 0) (.cons (.var 1) (.cons (.ife (.tru (.cmp .gt (.call "_law_take" (.cons (.var 0) (.cons (.var 1) (.cons (.cst (.int 8)) .nil)))) (.cst (.int 0)))) (.cst (.int 5)) (.cst (.int 20))) .nil)))))) (.cons (.asg (.nm 2) (.bin .add (.var 2) (.call "_law_pick" (.cons (.var 0) (.cons (.var 1) (.cons (.lst (.dsp (.cons (.cst (.str (Str.ofString "a"))) (.cons (.cst (.str (Str.ofString "b"))) (.cons (.cst (.str (Str.ofString "c"))) (.cons (.idx (.cst (.str (Str.ofString "abcdefghijklmnopqrstuvwxyz0123456789"))) (.call "_law_take" (.cons (.var 0) (.cons (.var 1) (.cons (.cst (.int 36)) .nil))))) .nil)))))) .nil)))))) .nil)) (.cons (.ret (.slc (.var 2) .no (.so (.cst (.int 20))))) .nil)))
def d__law_word : FnDef := ⟨2, 4, b__law_word⟩
def D__law_word : Df := ⟨"_law_word", [(Str.ofString "row"), (Str.ofString "spot")], [(Str.ofString "row"), (Str.ofString "spot"), (Str.ofString "made"), (Str.ofString "k")], top 26, d__law_word⟩
def b__law_take : Ss := (.cons (.setV 1 (.cst (.int 0)) (.bin .add (.idx (.var 1) (.cst (.int 0))) (.cst (.int 1)))) (.cons (.ret (.call "_law_draw" (.cons (.var 0) (.cons (.bin .sub (.idx (.var 1) (.cst (.int 0))) (.cst (.int 1))) (.cons (.var 2) .nil))))) .nil))
def d__law_take : FnDef := ⟨3, 3, b__law_take⟩
def D__law_take : Df := ⟨"_law_take", [(Str.ofString "row"), (Str.ofString "spot"), (Str.ofString "limit")], [(Str.ofString "row"), (Str.ofString "spot"), (Str.ofString "limit")], top 22, d__law_take⟩
def b__law_draw : Ss := (.cons (.ife (.tru (.cmp .lt (.var 1) (.blt .len (.cons (.var 0) .nil)))) (.cons (.ret (.bin .mod (.blt .int1 (.cons (.idx (.var 0) (.var 1)) .nil)) (.var 2))) .nil) .nil) (.cons (.asg (.nm 3) (.bin .mod (.blt .int1 (.cons (.bin .add (.bin .add (.bin .mul (.idx (.var 0) (.bin .mod (.blt .int1 (.cons (.var 1) .nil)) (.blt .len (.cons (.var 0) .nil)))) (.cst (.int 40692))) (.bin .mul (.var 1) (.cst (.int 7919)))) (.cst (.int 3))) .nil)) (.cst (.int 2147483399)))) (.cons (.ret (.bin .mod (.blt .int1 (.cons (.bin .mod (.blt .int1 (.cons (.bin .add (.bin .mul (.var 3) (.cst (.int 48271))) (.var 1)) .nil)) (.cst (.int 2147483647))) .nil)) (.var 2))) .nil)))
def d__law_draw : FnDef := ⟨3, 4, b__law_draw⟩
def D__law_draw : Df := ⟨"_law_draw", [(Str.ofString "row"), (Str.ofString "at"), (Str.ofString "limit")], [(Str.ofString "row"), (Str.ofString "at"), (Str.ofString "limit"), (Str.ofString "mixed")], top 21, d__law_draw⟩
def b__law_pick : Ss := (.cons (.ret (.idx (.var 2) (.call "_law_take" (.cons (.var 0) (.cons (.var 1) (.cons (.blt .len (.cons (.var 2) .nil)) .nil)))))) .nil)
def d__law_pick : FnDef := ⟨3, 3, b__law_pick⟩
def D__law_pick : Df := ⟨"_law_pick", [(Str.ofString "row"), (Str.ofString "spot"), (Str.ofString "things")], [(Str.ofString "row"), (Str.ofString "spot"), (Str.ofString "things")], top 23, d__law_pick⟩
def b__law_prose : Ss := (.cons (.asg (.nm 4) (.cst (.str (Str.ofString "")))) (.cons (.fr (.nm 5) (.rg1 (.call "_law_take" (.cons (.var 0) (.cons (.var 1) (.cons (.bin .add (.var 3) (.cst (.int 1))) .nil))))) (.cons (.asg (.nm 6) (.call "_law_pick" (.cons (.var 0) (.cons (.var 1) (.cons (.var 2) .nil))))) (.cons (.asg (.nm 7) (.call "_law_take" (.cons (.var 0) (.cons (.var 1) (.cons (.cst (.int 5)) .nil))))) (.cons (.ife (.bop true (.cons (.tru (.cmp .eq (.var 7) (.cst (.int 0)))) (.cons (.tru (.cmp .isin (.idx (.var 6) (.cst (.int 0))) (.cst (.str (Str.ofString "abcxyz"))))) .nil))) (.cons (.asg (.nm 6) (.bin .add (.idx (.cst (.str (Str.ofString "ABCXYZ"))) (.ms .index (.cst (.str (Str.ofString "abcxyz"))) (.cons (.idx (.var 6) (.cst (.int 0))) .nil))) (.slc (.var 6) (.so (.cst (.int 1))) .no))) .nil) .nil) (.cons (.asg (.nm 4) (.bin .add (.bin .add (.var 4) (.var 6)) (.call "_law_pick" (.cons (.var 0) (.cons (.var 1) (.cons (.lst (.dsp (.cons (.cst (.str (Str.ofString " "))) (.cons (.cst (.str (Str.ofString " "))) (.cons (.cst (.str (Str.ofString ", "))) (.cons (.cst (.str (Str.ofString ". "))) (.cons (.cst (.str (Str.ofString "\n"))) (.cons (.cst (.str (Str.ofString "-"))) (.cons (.cst (.str (Str.ofString " *"))) (.cons (.cst (.str (Str.ofString "'"))) .nil)))))))))) .nil)))))) .nil))))) (.cons (.ret (.var 4)) .nil)))
def d__law_prose : FnDef := ⟨4, 8, b__law_prose⟩
def D__law_prose : Df := ⟨"_law_prose", [(Str.ofString "row"), (Str.ofString "spot"), (Str.ofString "words"), (Str.ofString "most")], [(Str.ofString "row"), (Str.ofString "spot"), (Str.ofString "words"), (Str.ofString "most"), (Str.ofString "made"), (Str.ofString "k"), (Str.ofString "word"), (Str.ofString "kind")], top 27, d__law_prose⟩
def b__law_signs : Ss := (.cons (.asg (.nm 3) (.cst (.str (Str.ofString "")))) (.cons (.asg (.nm 4) (.call "_law_take" (.cons (.var 0) (.cons (.var 1) (.cons (.cst (.int 4)) .nil))))) (.cons (.fr (.nm 5) (.rg1 (.bin .add (.cst (.int 1)) (.call "_law_take" (.cons (.var 0) (.cons (.var 1) (.cons (.var 2) .nil)))))) (.cons (.ife (.tru (.cmp .eq (.var 4) (.cst (.int 0)))) (.cons (.asg (.nm 3) (.bin .add (.var 3) (.idx (.cst (.str (Str.ofString "\\*_[]{}|=-"))) (.call "_law_take" (.cons (.var 0) (.cons (.var 1) (.cons (.cst (.int 10)) .nil))))))) .nil) (.cons (.ife (.tru (.cmp .eq (.var 4) (.cst (.int 1)))) (.cons (.asg (.nm 3) (.bin .add (.var 3) (.idx (.cst (.str (Str.ofString "ab *_\\[{<&>\"3"))) (.call "_law_take" (.cons (.var 0) (.cons (.var 1) (.cons (.cst (.int 13)) .nil))))))) .nil) (.cons (.asg (.nm 3) (.bin .add (.var 3) (.idx (.cst (.str (Str.ofString "abcdefgh ijkl.,!XYZ019'?"))) (.call "_law_take" (.cons (.var 0) (.cons (.var 1) (.cons (.cst (.int 24)) .nil))))))) .nil)) .nil)) .nil)) (.cons (.ret (.var 3)) .nil))))
def d__law_signs : FnDef := ⟨3, 6, b__law_signs⟩
def D__law_signs : Df := ⟨"_law_signs", [(Str.ofString "row"), (Str.ofString "spot"), (Str.ofString "most")], [(Str.ofString "row"), (Str.ofString "spot"), (Str.ofString "most"), (Str.ofString "made"), (Str.ofString "kind"), (Str.ofString "k")], top 24, d__law_signs⟩
def b__law_so : Ss := (.cons (.ife (.tru (.cmp .is (.var 1) (.cst .non))) (.cons (.ret (.cmp .is (.var 0) (.cst .non))) .nil) .nil) (.cons (.ife (.tru (.blt .isi (.cons (.var 1) (.cons (.bty "tuple") .nil)))) (.cons (.ife (.bop false (.cons (.not (.tru (.blt .isi (.cons (.var 0) (.cons (.bty "tuple") .nil))))) (.cons (.tru (.cmp .ne (.blt .len (.cons (.var 0) .nil)) (.blt .len (.cons (.var 1) .nil)))) .nil))) (.cons (.ret (.cst (.bl false))) .nil) .nil) (.cons (.fr (.nm 2) (.rg1 (.blt .len (.cons (.var 1) .nil))) (.cons (.ife (.not (.tru (.call "_law_so" (.cons (.idx (.var 0) (.var 2)) (.cons (.idx (.var 1) (.var 2)) .nil))))) (.cons (.ret (.cst (.bl false))) .nil) .nil) .nil)) (.cons (.ret (.cst (.bl true))) .nil))) .nil) (.cons (.ife (.bop false (.cons (.tru (.blt .isi (.cons (.var 1) (.cons (.bty "bool") .nil)))) (.cons (.tru (.blt .isi (.cons (.var 0) (.cons (.bty "bool") .nil)))) .nil))) (.cons (.ret (.bop true (.cons (.blt .isi (.cons (.var 1) (.cons (.bty "bool") .nil))) (.cons (.blt .isi (.cons (.var 0) (.cons (.bty "bool") .nil))) (.cons (.cmp .eq (.var 0) (.var 1)) .nil))))) .nil) .nil) (.cons (.ife (.tru (.blt .isi (.cons (.var 1) (.cons (.bty "int") .nil)))) (.cons (.ret (.bop true (.cons (.blt .isi (.cons (.var 0) (.cons (.bty "int") .nil))) (.cons (.cmp .eq (.var 0) (.var 1)) .nil)))) .nil) .nil) (.cons (.ret (.bop true (.cons (.blt .isi (.cons (.var 1) (.cons (.bty "str") .nil))) (.cons (.blt .isi (.cons (.var 0) (.cons (.bty "str") .nil))) (.cons (.cmp .eq (.var 0) (.var 1)) .nil))))) .nil)))))
def d__law_so : FnDef := ⟨2, 3, b__law_so⟩
def D__law_so : Df := ⟨"_law_so", [(Str.ofString "found"), (Str.ofString "meant")], [(Str.ofString "found"), (Str.ofString "meant"), (Str.ofString "k")], top 19, d__law_so⟩
def b_words_of : Ss := (.cons (.exp (.call "need" (.cons (.call "is_signs_and_feeds" (.cons (.var 0) (.cons (.glb "LONGEST_TEXT" (.int 4000)) .nil))) (.cons (.cst (.int 0)) .nil)))) (.cons (.ret (.call "small_words" (.cons (.var 0) .nil))) .nil))
def d_words_of : FnDef := ⟨1, 1, b_words_of⟩
def D_words_of : Df := ⟨"words_of", [(Str.ofString "text")], [(Str.ofString "text")], top 17, d_words_of⟩
def b_need : Ss := (.cons (.ife (.not (.tru (.var 0))) (.cons .never .nil) .nil) .nil)
def d_need : FnDef := ⟨2, 2, b_need⟩
def D_need : Df := ⟨"need", [(Str.ofString "holds"), (Str.ofString "at")], [(Str.ofString "holds"), (Str.ofString "at")], top 4, d_need⟩
def b_is_signs_and_feeds : Ss := (.cons (.ife (.bop false (.cons (.not (.tru (.call "is_string" (.cons (.var 0) .nil)))) (.cons (.tru (.cmp .gt (.blt .len (.cons (.var 0) .nil)) (.var 1))) .nil))) (.cons (.ret (.cst (.bl false))) .nil) .nil) (.cons (.fr (.nm 2) (.val (.var 0)) (.cons (.ife (.bop true (.cons (.tru (.cmp .ne (.var 2) (.cst (.str (Str.ofString "\n"))))) (.cons (.not (.tru (.call "is_sign" (.cons (.var 2) .nil)))) .nil))) (.cons (.ret (.cst (.bl false))) .nil) .nil) .nil)) (.cons (.ret (.cst (.bl true))) .nil)))
def d_is_signs_and_feeds : FnDef := ⟨2, 3, b_is_signs_and_feeds⟩
def D_is_signs_and_feeds : Df := ⟨"is_signs_and_feeds", [(Str.ofString "worth"), (Str.ofString "most")], [(Str.ofString "worth"), (Str.ofString "most"), (Str.ofString "character")], top 10, d_is_signs_and_feeds⟩
def b_is_string : Ss := (.cons (.ret (.blt .isi (.cons (.var 0) (.cons (.bty "str") .nil)))) .nil)
def d_is_string : FnDef := ⟨1, 1, b_is_string⟩
def D_is_string : Df := ⟨"is_string", [(Str.ofString "worth")], [(Str.ofString "worth")], top 5, d_is_string⟩
def b_is_sign : Ss := (.cons (.ret (.bop true (.cons (.chn .le .le (.cst (.str (Str.ofString " "))) (.var 0) (.cst (.str (Str.ofString "~")))) (.cons (.cmp .ne (.blt .ord1 (.cons (.var 0) .nil)) (.glb "PER_CENT" (.int 37))) .nil)))) .nil)
def d_is_sign : FnDef := ⟨1, 1, b_is_sign⟩
def D_is_sign : Df := ⟨"is_sign", [(Str.ofString "character")], [(Str.ofString "character")], top 9, d_is_sign⟩
def b_small_words : Ss := (.cons (.asg (.nm 1) (.ms .lower (.var 0) .nil)) (.cons (.own 2 (.dsp .nil)) (.cons (.asg (.nm 3) (.cst (.int 0))) (.cons (.whl (.tru (.cmp .lt (.var 3) (.blt .len (.cons (.var 1) .nil)))) (.cons (.asg (.nm 4) (.call "run_end" (.cons (.var 1) (.cons (.var 3) .nil)))) (.cons (.ife (.tru (.cmp .gt (.var 4) (.var 3))) (.cons (.appV 2 (.slc (.var 1) (.so (.var 3)) (.so (.var 4)))) (.cons (.asg (.nm 3) (.var 4)) .nil)) (.cons (.aug 3 .add (.cst (.int 1))) .nil)) .nil))) (.cons (.ret (.blt .tup1 (.cons (.var 2) .nil))) .nil)))))
def d_small_words : FnDef := ⟨1, 5, b_small_words⟩
def D_small_words : Df := ⟨"small_words", [(Str.ofString "text")], [(Str.ofString "text"), (Str.ofString "small"), (Str.ofString "words"), (Str.ofString "at"), (Str.ofString "end")], top 15, d_small_words⟩
def b_run_end : Ss := (.cons (.asg (.nm 2) (.var 1)) (.cons (.whl (.bop true (.cons (.tru (.cmp .lt (.var 2) (.blt .len (.cons (.var 0) .nil)))) (.cons (.tru (.call "makes_words" (.cons (.idx (.var 0) (.var 2)) .nil))) .nil))) (.cons (.aug 2 .add (.cst (.int 1))) .nil)) (.cons (.ret (.var 2)) .nil)))
def d_run_end : FnDef := ⟨2, 3, b_run_end⟩
def D_run_end : Df := ⟨"run_end", [(Str.ofString "text"), (Str.ofString "at")], [(Str.ofString "text"), (Str.ofString "at"), (Str.ofString "end")], top 14, d_run_end⟩
def b_makes_words : Ss := (.cons (.ret (.cmp .isin (.var 0) (.glb "SMALL" (.str (Str.ofString "abcdefghijklmnopqrstuvwxyz0123456789"))))) .nil)
def d_makes_words : FnDef := ⟨1, 1, b_makes_words⟩
def D_makes_words : Df := ⟨"makes_words", [(Str.ofString "sign")], [(Str.ofString "sign")], top 13, d_makes_words⟩
def b__law_words_of : Ss := (.cons (.own 1 (.dsp .nil)) (.cons (.asg (.nm 2) (.cst (.str (Str.ofString "")))) (.cons (.fr (.nm 3) (.val (.bin .add (.var 0) (.cst (.str (Str.ofString " "))))) (.cons (.ife (.tru (.cmp .isin (.var 3) (.cst (.str (Str.ofString "abcdefghijklmnopqrstuvwxyz0123456789"))))) (.cons (.asg (.nm 2) (.bin .add (.var 2) (.var 3))) .nil) (.cons (.ife (.tru (.cmp .isin (.var 3) (.cst (.str (Str.ofString "ABCDEFGHIJKLMNOPQRSTUVWXYZ"))))) (.cons (.asg (.nm 2) (.bin .add (.var 2) (.idx (.cst (.str (Str.ofString "abcdefghijklmnopqrstuvwxyz"))) (.ms .index (.cst (.str (Str.ofString "ABCDEFGHIJKLMNOPQRSTUVWXYZ"))) (.cons (.var 3) .nil))))) .nil) (.cons (.ife (.tru (.cmp .ne (.var 2) (.cst (.str (Str.ofString ""))))) (.cons (.appV 1 (.var 2)) (.cons (.asg (.nm 2) (.cst (.str (Str.ofString "")))) .nil)) .nil) .nil)) .nil)) .nil)) (.cons (.frz 1) (.cons (.ret (.var 1)) .nil)))))
def d__law_words_of : FnDef := ⟨1, 4, b__law_words_of⟩
def D__law_words_of : Df := ⟨"_law_words_of", [(Str.ofString "text")], [(Str.ofString "text"), (Str.ofString "made"), (Str.ofString "now"), (Str.ofString "sign")], top 25, d__law_words_of⟩
def mo : Mo := ⟨["range", "int", "len", "isinstance", "tuple", "bool", "str", "ord"], [("PER_CENT", (.int 37)), ("LONGEST_TEXT", (.int 4000)), ("SMALL", (.str (Str.ofString "abcdefghijklmnopqrstuvwxyz0123456789")))], [D_law, D__law_numbers, D__law_word, D__law_take, D__law_draw, D__law_pick, D__law_prose, D__law_signs, D__law_so, D_words_of, D_need, D_is_signs_and_feeds, D_is_string, D_is_sign, D_small_words, D_run_end, D_makes_words, D__law_words_of]⟩
theorem mo_st : mo.static = true := by decide +kernel
theorem mo_bs : BindsAll mo.defs := (.cons (fun _ _ _ _ _ _ us hl => match us, hl with | [_], _ => rfl) (.cons (fun _ _ _ _ _ _ us hl => match us, hl with | [_], _ => rfl) (.cons (fun _ _ _ _ _ _ us hl => match us, hl with | [_, _], _ => rfl) (.cons (fun _ _ _ _ _ _ us hl => match us, hl with | [_, _, _], _ => rfl) (.cons (fun _ _ _ _ _ _ us hl => match us, hl with | [_, _, _], _ => rfl) (.cons (fun _ _ _ _ _ _ us hl => match us, hl with | [_, _, _], _ => rfl) (.cons (fun _ _ _ _ _ _ us hl => match us, hl with | [_, _, _, _], _ => rfl) (.cons (fun _ _ _ _ _ _ us hl => match us, hl with | [_, _, _], _ => rfl) (.cons (fun _ _ _ _ _ _ us hl => match us, hl with | [_, _], _ => rfl) (.cons (fun _ _ _ _ _ _ us hl => match us, hl with | [_], _ => rfl) (.cons (fun _ _ _ _ _ _ us hl => match us, hl with | [_, _], _ => rfl) (.cons (fun _ _ _ _ _ _ us hl => match us, hl with | [_, _], _ => rfl) (.cons (fun _ _ _ _ _ _ us hl => match us, hl with | [_], _ => rfl) (.cons (fun _ _ _ _ _ _ us hl => match us, hl with | [_], _ => rfl) (.cons (fun _ _ _ _ _ _ us hl => match us, hl with | [_], _ => rfl) (.cons (fun _ _ _ _ _ _ us hl => match us, hl with | [_, _], _ => rfl) (.cons (fun _ _ _ _ _ _ us hl => match us, hl with | [_], _ => rfl) (.cons (fun _ _ _ _ _ _ us hl => match us, hl with | [_], _ => rfl) .nil))))))))))))))))))

end PG.K43


set_option Elab.async false
set_option maxRecDepth 100000
set_option linter.unusedVariables false
set_option maxHeartbeats 0
namespace PG.K43
open PySem PySem.Spec PyProof.Rows L2
abbrev RowR : PySem.W.OpenRow := PySem.W.OpenLaw.row PySem.Challenge.rw_pagestead_k43_words_of_texts
abbrev hk : PySem.W.Hook := He.hookX 4 mo.fa mo.fn [] [] mo.exK
def ob (s : PySem.W.SharedT) : He.AlX := He.obsX 4 mo.fa mo.fn [] [] mo.exK (HandSHeadRun.getT s)
theorem ob_eq (s : PySem.W.SharedT) : ob s = hk.obs s.abs := He.obsX_eq (HandSHeadRun.getT_eq s)
def loose0 : List Str := ["PageError", "BadValue", "need", "is_string", "LONGEST_TEXT", "PER_CENT", "is_sign", "is_signs_and_feeds", "SMALL", "makes_words", "run_end", "small_words", "words_of", "_law_so", "_law_numbers", "_law_draw", "_law_take", "_law_pick", "_law_signs", "_law_words_of", "_law_word", "_law_prose"]
def loose : List Str := loose0
theorem run (w : World) : HandSHeadRun.RunEq RowR (PySem.W.view RowR.prog [28]) hk ob 9000 loose w := by
  intro os
  kernel_rfl
end PG.K43


set_option Elab.async false
set_option maxRecDepth 100000
set_option linter.unusedVariables false
set_option maxHeartbeats 0
open PySem PySem.W PySem.Calls PyProof.Rows
theorem PG.K43.fin (law_ok : ∀ ns : List Int, ns.length ≤ 63 → ∃ h', PG.callF PG.K43.mo.T 60 "law" [.scr (ns.map .int)] [] = some (.ok (.bl true), h')) : PySem.Challenge.rw_pagestead_k43_words_of_texts.Holds := by
  w_on; o_law
  refine HandSHeadRun.head_any (r := OpenLaw.row PySem.Challenge.rw_pagestead_k43_words_of_texts) (q := view (OpenLaw.row PySem.Challenge.rw_pagestead_k43_words_of_texts).prog [28]) (H := PG.K43.hk) (ob := PG.K43.ob) (M := 9000) (loose := PG.K43.loose) (d := HandSHeadRun.topDef (OpenLaw.row PySem.Challenge.rw_pagestead_k43_words_of_texts).prog 28) (kwd := []) PG.K43.ob_eq
    (by kernel_rfl) (fun s => by kernel_rfl) PG.K43.run (by kernel_rfl) (by kernel_rfl) (by kernel_rfl) (by rfl) (by first | assumption | decide +kernel) (by decide +kernel) ⟨rfl, rfl, rfl, rfl, rfl, by decide +kernel⟩ ?hw ?hc
  case hw => w_witness2
  case hc =>
    refine PG.walk_w (l := PySem.Challenge.rw_pagestead_k43_words_of_texts) (n := 63) (k := 60) (x := Str.ofString "script") (c := L2.CX PySem.Challenge.rw_pagestead_k43_words_of_texts.prog) rfl (by decide) (by kernel_rfl) ⟨rfl, by decide, by decide⟩ ?F ?G
    case F =>
      intro w mg fa h Y G hmg0
      obtain ⟨K, KX, c⟩ := Y
      have hmg : mg (Str.ofString "law") = some (.ref fa) := by
        have e : (HandSHeadRun.topDef (OpenLaw.row PySem.Challenge.rw_pagestead_k43_words_of_texts).prog 28).name = Str.ofString "law" := by kernel_rfl
        rw [← e]
        exact hmg0
      exact PG.law_at (D := PG.K43.D_law) (List.mem_cons_self ..) ⟨_, rfl⟩ PG.K43.mo_st PG.K43.mo_bs KX G c hmg law_ok
    case G => exact fun _ _ _ _ _ z => PG.cx_none z


set_option Elab.async false
set_option maxRecDepth 100000
set_option linter.unusedVariables false
/-! K43m: words of a text, in plain Lean. -/
namespace PG.Wo
def al (c : Nat) : Bool := decide ((97 ≤ c ∧ c ≤ 122) ∨ (48 ≤ c ∧ c ≤ 57))
/-- the words, `now` being the one under way -/
def ws : List Nat → List Nat → List (List Nat)
  | now, [] => if now = [] then [] else [now]
  | now, c :: l => if al c = true then ws (now ++ [c]) l else if now = [] then ws [] l else now :: ws [] l
theorem ws_run : ∀ (r : List Nat) (now l : List Nat), (∀ c ∈ r, al c = true) → ws now (r ++ l) = ws (now ++ r) l
  | [], now, l, _ => by simp
  | c :: r, now, l, h => by
    rw [List.cons_append, ws, if_pos (h c (List.mem_cons_self ..)), ws_run r _ l fun d hd => h d (List.mem_cons_of_mem _ hd)]
    simp
/-- a run, then its end -/
theorem ws_word {r l : List Nat} (hr : r ≠ []) (h : ∀ c ∈ r, al c = true) (hl : ∀ c, l.head? = some c → al c = false) : ws [] (r ++ l) = r :: ws [] l := by
  rw [ws_run r [] l h, List.nil_append]
  cases l with
  | nil => rw [ws, if_neg hr, ws, if_pos rfl]
  | cons c l =>
    have := hl c rfl
    rw [ws, if_neg (by rw [this]; simp), if_neg hr, ws, if_neg (by rw [this]; simp), if_pos rfl]
theorem ws_skip {c : Nat} {l : List Nat} (h : al c = false) : ws [] (c :: l) = ws [] l := by
  rw [ws, if_neg (by rw [h]; simp), if_pos rfl]
/-- where the run that begins at i ends -/
def runEnd (s : List Nat) (i : Nat) : Nat := i + ((s.drop i).takeWhile al).length
theorem runEnd_le {s : List Nat} {i : Nat} (h : i ≤ s.length) : runEnd s i ≤ s.length := by
  unfold runEnd
  have := (List.takeWhile_sublist (l := s.drop i) al).length_le
  rw [List.length_drop] at this
  omega
theorem runEnd_go {s : List Nat} {i : Nat} (h : i < s.length) (ha : al s[i] = true) : runEnd s i = runEnd s (i + 1) := by
  unfold runEnd
  rw [List.drop_eq_getElem_cons h, List.takeWhile_cons_of_pos ha, List.length_cons]
  omega
theorem runEnd_stop {s : List Nat} {i : Nat} (h : i < s.length) (ha : al s[i] = false) : runEnd s i = i := by
  unfold runEnd
  rw [List.drop_eq_getElem_cons h, List.takeWhile_cons_of_neg (by rw [ha]; simp)]
  rfl
theorem runEnd_end {s : List Nat} {i : Nat} (h : s.length ≤ i) : runEnd s i = i := by
  unfold runEnd
  rw [List.drop_of_length_le h]; rfl
/-- a step of the program's loop: a word -/
theorem step_word {s : List Nat} {i : Nat} (h : i < runEnd s i) : ws [] (s.drop i) = (s.drop i).take (runEnd s i - i) :: ws [] (s.drop (runEnd s i)) := by
  have e : (s.drop i).take (runEnd s i - i) = (s.drop i).takeWhile al := by
    unfold runEnd
    rw [Nat.add_sub_cancel_left]
    conv => lhs; arg 2; rw [← List.takeWhile_append_dropWhile (p := al) (l := s.drop i)]
    rw [List.take_left]
  have e2 : s.drop (runEnd s i) = (s.drop i).dropWhile al := by
    unfold runEnd
    rw [← List.drop_drop]
    conv => lhs; arg 2; rw [← List.takeWhile_append_dropWhile (p := al) (l := s.drop i)]
    rw [List.drop_left]
  rw [e, e2]
  conv => lhs; arg 2; rw [← List.takeWhile_append_dropWhile (p := al) (l := s.drop i)]
  refine ws_word (fun q => ?_) (fun c hc => ?_) (fun c hc => ?_)
  · unfold runEnd at h
    rw [q] at h
    simp at h
  · have := List.all_takeWhile (p := al) (l := s.drop i)
    exact List.all_eq_true.mp this c hc
  · have := List.head?_dropWhile_not al (s.drop i)
    rw [hc] at this
    simpa using this
/-- .. and no word -/
theorem step_skip {s : List Nat} {i : Nat} (hi : i < s.length) (h : ¬ i < runEnd s i) : ws [] (s.drop i) = ws [] (s.drop (i + 1)) := by
  have : al s[i] = false := by
    cases ha : al s[i] with
    | false => rfl
    | true =>
      rw [runEnd_go hi ha] at h
      unfold runEnd at h
      omega
  rw [List.drop_eq_getElem_cons hi, ws_skip this]
end PG.Wo


set_option Elab.async false
set_option maxRecDepth 100000
set_option linter.unusedVariables false
/-! K43p: what the small texts do. -/
namespace PG.K43
open PySem L2 PG.Wo PyProof
local macro_rules | `(tactic| walk_at "ev") => `(tactic| simp only [w_var, w_cst, w_glb, w_bty, w_tup, w_lst, w_rf, w_bin, w_neg, w_cmp, w_chn, w_not, w_bop, w_ife, w_idx, w_slc, w_call, w_blt, w_b1, w_b2, w_tru, w_tno, w_tbo, w_t1, w_t2, w_c0, w_c1, w_o0, w_o1, w_e0, w_e1, w_dsp, w_lc, w_lof, w_lrg, w_ival, w_rg1, w_rg2, w_nil, w_cons, w_asg, w_own, w_exp, w_ret, w_retN, w_if, w_whl, w_for, w_brk, w_cnt, w_pass, w_nev, w_frz, w_appV, w_app, w_setV, w_setI, frz_o, frz_v, frz_n, app_o, app_v, set_o, set_v, ownSet_i, negOf_i, blOf_b, inOf_i, itVal_l, itVal_c, itVal_t, itVal_s, asSeq_l, asSeq_b, asSeq_t, slc_s, slc_l, slc_b, slc_c, slc_t, Ret_nx, Ret_rt, Ret_bk, Ret_ct, Ret_xc,
  OP_some, OP_none, OP_map, OP_if, slGet_v, slGet_o, slGet_d, slGet_n, slGet_s, ptSet_z, ptSet_s, ptSet_t, tpSet_n, tpSet_c, nb_non, nb_bl, nb_int, nb_str, nb_tup, nb_lst, nb_ref, nb_scr, nb_bor, List.getElem?_cons_zero, List.getElem?_cons_succ, List.set_cons_zero, List.set_cons_succ, List.length_cons, List.length_nil, List.map_cons, List.map_nil, List.replicate_zero, List.replicate_succ, List.cons_append, List.nil_append,
  bOp_addI, bOp_subI, bOp_mulI, bOp_fdivI, bOp_modI, bOp_powI, bOp_addS, bOp_mulS, bOp_addL, bOp_addBL, bOp_addLB, cOp_ltI, cOp_leI, cOp_gtI, cOp_geI, cOp_eqI, cOp_neI, cOp_eqS, cOp_neS, cOp_eqB, cOp_ltS, cOp_leS, cOp_isN, cOp_isI, cOp_isB, cOp_isS, cOp_isT, cOp_isL, cOp_isnotN, cOp_isnotI, cOp_isnotB, cOp_isnotS, cOp_isnotT, cOp_isnotL,
  truth_non, truth_bl, truth_int, truth_str, truth_lst, truth_tup, truth_bor, cIdx_lst, cIdx_bor, cIdx_tup, cIdx_str, len_lst, len_bor, len_tup, len_str, int_int, min2_int, max2_int, min3_int, tup1_lst, tup1_bor, tup1_tup, isi_non_int, isi_non_bool, isi_non_str, isi_non_tuple, isi_non_list, isi_bl_int, isi_bl_bool, isi_bl_str, isi_bl_tuple, isi_bl_list, isi_int_int, isi_int_bool, isi_int_str, isi_int_tuple, isi_int_list, isi_str_int, isi_str_bool, isi_str_str, isi_str_tuple, isi_str_list, isi_tup_int, isi_tup_bool, isi_tup_str, isi_tup_tuple, isi_tup_list, isi_lst_int, isi_lst_bool, isi_lst_str, isi_lst_tuple, isi_lst_list, isi_bor_int, isi_bor_bool, isi_bor_str, isi_bor_tuple, isi_bor_list,
  List.all_cons, List.all_nil, Option.map_some, Option.map_none, Bool.and_true, Bool.true_and, and_true, true_and, if_true, if_false, reduceIte, Bool.false_eq_true, decide_eq_true_eq, Bool.not_true, Bool.not_false, List.length_map, wipeE, ptSlots, Int.reduceLT, Int.reduceLE, Int.reduceEq, Nat.reduceLT, Nat.reduceLeDiff, Nat.reduceAdd, Int.reduceNeg, Int.reduceToNat, Int.reduceAdd, Int.reduceSub, mulOk_r, Nat.zero_le, and_self, Nat.reduceSub, w_ms, w_rv1, w_rv2, w_enu, w_aug, w_popX, w_popV, w_extV, ext_o, ext_v, stOf_s, lsOf_l, asLst_l, asLst_b, aug_add, aug_sub, cOp_inS, cOp_ninS, ms_starts, ms_find])
abbrev TT : Tb := mo.T
theorem sh : Sh TT := ⟨by kernel_rfl, by kernel_rfl, by kernel_rfl, by kernel_rfl, by kernel_rfl⟩
theorem t_lword : TT "_law_word" = some Lib.d__law_word := by kernel_rfl
theorem t_string : TT "is_string" = some d_is_string := by kernel_rfl
theorem t_sign : TT "is_sign" = some d_is_sign := by kernel_rfl
theorem t_feeds : TT "is_signs_and_feeds" = some d_is_signs_and_feeds := by kernel_rfl
theorem t_need : TT "need" = some d_need := by kernel_rfl
theorem t_makes : TT "makes_words" = some d_makes_words := by kernel_rfl
theorem t_run : TT "run_end" = some d_run_end := by kernel_rfl
theorem t_small : TT "small_words" = some d_small_words := by kernel_rfl
theorem t_wordsof : TT "words_of" = some d_words_of := by kernel_rfl
theorem t_lwordsof : TT "_law_words_of" = some d__law_words_of := by kernel_rfl
theorem t_prose : TT "_law_prose" = some d__law_prose := by kernel_rfl
theorem t_signs : TT "_law_signs" = some d__law_signs := by kernel_rfl
theorem t_law : TT "law" = some d_law := by kernel_rfl
variable {k : Nat} {h : Hm}
theorem s_sp : Str.ofString " " = mkS [32] := by decide +kernel
theorem s_ti : Str.ofString "~" = mkS [126] := by decide +kernel
theorem s_nl : Str.ofString "\n" = mkS [10] := by decide +kernel
theorem al_iff {c : Nat} : decide (c ∈ alnum) = al c := by
  unfold al alnum
  rw [decide_eq_decide]
  simp only [List.mem_cons, List.not_mem_nil, or_false]
  omega
def okc (c : Nat) : Prop := c = 10 ∨ (32 ≤ c ∧ c ≤ 126 ∧ c ≠ 37)
theorem string_ok {z : Str} : callF TT (k + 1) "is_string" [.str z] h = some (.ok (.bl true), h) := by
  refine pure_of (call_rp t_string ?_)
  unfold d_is_string b_is_string
  walk_at "ev"
theorem need_ok {v : PV} : callF TT (k + 1) "need" [.bl true, v] h = some (.ok .non, h) := by
  refine pure_of (call_rp t_need ?_)
  unfold d_need b_need
  walk_at "ev"
theorem ord_one {c : Nat} : cBl h .ord1 [.str (mkS [c])] = some (.int c) := rfl
theorem sign_ok {c : Nat} (hc : 32 ≤ c ∧ c ≤ 126 ∧ c ≠ 37) : callF TT (k + 1) "is_sign" [.str (mkS [c])] h = some (.ok (.bl true), h) := by
  refine pure_of (call_rp t_sign ?_)
  unfold d_is_sign b_is_sign
  simp only [s_sp, s_ti]
  walk_at "ev"
  have h1 : ¬ c < 32 := by omega
  have h2 : ¬ 126 < c := by omega
  have h3 : ¬ ((c : Int) = 37) := by omega
  simp only [mkS_list, lt_one, h1, h2, decide_false]
  walk_at "ev"
  rw [ord_one]
  walk_at "ev"
  simp only [h3, decide_false]
  rfl
theorem feeds_ok {l : List Nat} (hl : l.length ≤ 4000) (ho : ∀ c ∈ l, okc c) : callF TT (k + 2) "is_signs_and_feeds" [.str (mkS l), .int 4000] h = some (.ok (.bl true), h) := by
  refine pure_of (call_rp t_feeds ?_)
  unfold d_is_signs_and_feeds b_is_signs_and_feeds
  simp only [s_nl]
  walk_at "ev"
  rw [RP_eq string_ok]
  walk_at "ev"
  have h1 : ¬ (4000 : Int) < (mkS l).length := by rw [mkS_len]; omega
  simp only [h1, decide_false]
  walk_at "ev"
  refine forL_map (fun c => PV.str ⟨#[c]⟩) (fun r env h' => h' = h ∧ (∀ c ∈ r, okc c) ∧ ∃ z, env = [.val (.str (mkS l)), .val (.int 4000), z]) ?_ ?_ _ _ _ ⟨rfl, ho, _, rfl⟩
  · rintro env h' ⟨rfl, _, z, rfl⟩
    walk_at "ev"
  · rintro c r env h' ⟨rfl, hr, z, rfl⟩
    have hc := hr c (List.mem_cons_self ..)
    have hr' : ∀ c ∈ r, okc c := fun d hd => hr d (List.mem_cons_of_mem _ hd)
    walk_at "ev"
    by_cases q : c = 10
    · subst q
      simp only [decide_true]
      walk_at "ev"
      exact ⟨hr', _, rfl⟩
    · have q1 : ¬ (mkS [c] = mkS [10]) := by rw [one_inj]; exact q
      simp only [q1, decide_false]
      walk_at "ev"
      rw [RP_eq (sign_ok (hc.resolve_left q))]
      walk_at "ev"
      exact ⟨hr', _, rfl⟩
theorem makes_ok {c : Nat} : callF TT (k + 1) "makes_words" [.str (mkS [c])] h = some (.ok (.bl (al c)), h) := by
  refine pure_of (call_rp t_makes ?_)
  unfold d_makes_words b_makes_words
  simp only [s_alnum]
  walk_at "ev"
  rw [PySem.StrLaws.found_one, mkS_list, al_iff]
theorem run_ok {s : List Nat} {i : Nat} (hi : i ≤ s.length) (hs : s.length ≤ 4000) : callF TT (k + 2) "run_end" [.str (mkS s), .int i] h = some (.ok (.int (runEnd s i : Nat)), h) := by
  refine pure_of (call_rp t_run ?_)
  unfold d_run_end b_run_end
  walk_at "ev"
  refine whl_inv (fun m env h' => h' = h ∧ ∃ e : Nat, e ≤ s.length ∧ m = s.length - e ∧ runEnd s e = runEnd s i ∧ env = [.val (.str (mkS s)), .val (.int i), .val (.int e)]) ?_ fuel (s.length - i) _ _ (by unfold fuel; omega) ⟨rfl, i, hi, rfl, rfl, rfl⟩
  rintro m env h' ⟨rfl, e, he, rfl, hr, rfl⟩
  walk_at "ev"
  rw [mkS_len]
  by_cases q : (e : Int) < s.length
  · have q2 : e < s.length := by omega
    simp only [q, decide_true]
    walk_at "ev"
    rw [atI_nn (show (0 : Int) ≤ e by omega), List.getElem?_eq_getElem (show (e : Int).toNat < s.length by omega)]
    simp only [Int.toNat_natCast]
    walk_at "ev"
    rw [RP_eq makes_ok]
    walk_at "ev"
    cases ha : al s[e] with
    | true =>
      walk_at "ev"
      refine ⟨s.length - (e + 1), by omega, e + 1, by omega, rfl, ?_, rfl⟩
      rw [← runEnd_go q2 ha]; exact hr
    | false =>
      walk_at "ev"
      rw [← hr, runEnd_stop q2 ha]
  · simp only [q, decide_false]
    walk_at "ev"
    rw [← hr, runEnd_end (by omega)]
theorem cutS_mid {l : List Nat} {i j : Nat} (hi : i ≤ l.length) (hj : j ≤ l.length) : cutSt (mkS l) (some (i : Int)) (some (j : Int)) = mkS ((l.drop i).take (j - i)) := by
  unfold cutSt
  rw [mkS_len, sIx_some (by omega), sIx_some (by omega), mkS_list, Int.toNat_natCast, Int.toNat_natCast, Nat.min_eq_left hi, Nat.min_eq_left hj]
def sVs (ws : List (List Nat)) : List PV := ws.map fun w => .str (mkS w)
theorem small_ok {l : List Nat} (hl : l.length ≤ 4000) (ha : l.all (· < 128) = true) : callF TT (k + 3) "small_words" [.str (mkS l)] h = some (.ok (.tup (sVs (ws [] (l.map PyProof.Rows.lo1)))), h) := by
  refine pure_of (call_rp t_small ?_)
  unfold d_small_words b_small_words
  walk_at "ev"
  have el : sMt h .lower (mkS l) [] = some (.str (mkS (l.map PyProof.Rows.lo1))) := by
    show (if (mkS l).length ≤ 5592405 ∧ okS (Txt.lower (mkS l)) = true then some (PV.str (Txt.lower (mkS l))) else none) = _
    have e : Txt.lower (mkS l) = mkS (l.map PyProof.Rows.lo1) := by
      rw [PyProof.Rows.lower_ascii (x := mkS l) (fun c hc => of_decide_eq_true (List.all_eq_true.mp ha c hc))]
      simp
    rw [e, if_pos ⟨by rw [mkS_len]; omega, by unfold okS; rw [mkS_len, List.length_map]; exact decide_eq_true (by unfold sizeLine; omega)⟩]
  rw [el]
  generalize hs : l.map PyProof.Rows.lo1 = s
  have hsl : s.length ≤ 4000 := by rw [← hs, List.length_map]; exact hl
  walk_at "ev"
  refine whl_inv (fun m env h' => h' = h ∧ ∃ (at_ : Nat) (wl : List (List Nat)) (z : Sl), at_ ≤ s.length ∧ m = s.length - at_ ∧ wl.length ≤ at_ ∧ wl ++ ws [] (s.drop at_) = ws [] s ∧ env = [.val (.str (mkS l)), .val (.str (mkS s)), .own (sVs wl), .val (.int at_), z]) ?_ fuel s.length _ _ (by unfold fuel; omega) ⟨rfl, 0, [], _, Nat.zero_le _, rfl, Nat.le_refl _, rfl, rfl⟩
  rintro m env h' ⟨rfl, i, wl, z, hi, rfl, hw, he, rfl⟩
  walk_at "ev"
  rw [mkS_len]
  by_cases q : (i : Int) < s.length
  · have q2 : i < s.length := by omega
    simp only [q, decide_true]
    walk_at "ev"
    rw [RP_eq (run_ok hi hsl)]
    walk_at "ev"
    have hr := runEnd_le hi
    by_cases q3 : (i : Int) < (runEnd s i : Nat)
    · have q4 : i < runEnd s i := by omega
      simp only [q3, decide_true]
      walk_at "ev"
      rw [cutS_mid hi hr]
      have hz : (sVs wl).length < sizeLine := by unfold sVs sizeLine; rw [List.length_map]; omega
      simp only [hz]
      walk_at "ev"
      refine ⟨s.length - runEnd s i, by omega, runEnd s i, wl ++ [(s.drop i).take (runEnd s i - i)], .val (.int (runEnd s i : Nat)), hr, rfl, by simp; omega, ?_, ?_⟩
      · rw [List.append_assoc, ← he, step_word q4]; rfl
      · unfold sVs; rw [List.map_append]; rfl
    · simp only [q3, decide_false]
      walk_at "ev"
      refine ⟨s.length - (i + 1), by omega, i + 1, wl, _, q2, rfl, by omega, ?_, rfl⟩
      rw [← he, step_skip q2 (by omega)]
  · simp only [q, decide_false]
    walk_at "ev"
    have : i = s.length := by omega
    subst this
    rw [List.drop_length, ws, if_pos rfl, List.append_nil] at he
    rw [he]
theorem ok_ascii {l : List Nat} (ho : ∀ c ∈ l, okc c) : l.all (· < 128) = true := List.all_eq_true.mpr fun c hc => decide_eq_true (by rcases ho c hc with q | q <;> omega)
theorem wordsof_ok {l : List Nat} (hl : l.length ≤ 4000) (ho : ∀ c ∈ l, okc c) : callF TT (k + 4) "words_of" [.str (mkS l)] h = some (.ok (.tup (sVs (ws [] (l.map PyProof.Rows.lo1)))), h) := by
  refine pure_of (call_rp t_wordsof ?_)
  unfold d_words_of b_words_of
  walk_at "ev"
  rw [RP_eq (feeds_ok hl ho)]
  walk_at "ev"
  rw [RP_eq need_ok]
  walk_at "ev"
  rw [RP_eq (small_ok hl (ok_ascii ho))]
  walk_at "ev"
def upper : List Nat := [65,66,67,68,69,70,71,72,73,74,75,76,77,78,79,80,81,82,83,84,85,86,87,88,89,90]
def lowr : List Nat := [97,98,99,100,101,102,103,104,105,106,107,108,109,110,111,112,113,114,115,116,117,118,119,120,121,122]
theorem s_upper : Str.ofString "ABCDEFGHIJKLMNOPQRSTUVWXYZ" = mkS upper := by decide +kernel
theorem s_lowr : Str.ofString "abcdefghijklmnopqrstuvwxyz" = mkS lowr := by decide +kernel
theorem s_abcxyz : Str.ofString "abcxyz" = mkS [97, 98, 99, 120, 121, 122] := by decide +kernel
theorem s_ABCXYZ : Str.ofString "ABCXYZ" = mkS [65, 66, 67, 88, 89, 90] := by decide +kernel
theorem in_one {l : List Nat} {c : Nat} : (!(Builtin.Str.occurrences (mkS l) (mkS [c]) 0 (mkS l).length 1).isEmpty) = decide (c ∈ l) := PySem.StrLaws.found_one _ _
theorem upper_iff {c : Nat} : decide (c ∈ upper) = decide (65 ≤ c ∧ c ≤ 90) := by
  unfold upper
  rw [decide_eq_decide]
  simp only [List.mem_cons, List.not_mem_nil, or_false]
  omega
theorem up_ix : (upper.all fun c => decide (Builtin.Str.occurrences (mkS upper) (mkS [c]) 0 26 1 = [c - 65]) && decide (atI lowr ((c - 65 : Nat) : Int) = some (PyProof.Rows.lo1 c))) = true := by decide +kernel
theorem up_one {c : Nat} (hc : c ∈ upper) : sMt h .index (mkS upper) [.str (mkS [c])] = some (.int (c - 65 : Nat)) ∧ atI lowr ((c - 65 : Nat) : Int) = some (PyProof.Rows.lo1 c) := by
  have := List.all_eq_true.mp up_ix c hc
  obtain ⟨h1, h2⟩ := Bool.and_eq_true_iff.mp this
  refine ⟨?_, of_decide_eq_true h2⟩
  show (match Builtin.Str.occurrences (mkS upper) (mkS [c]) 0 26 1 with
    | i :: _ => some (PV.int (i : Nat))
    | [] => none) = _
  rw [of_decide_eq_true h1]
theorem lo_same {c : Nat} (hc : al c = true) : PyProof.Rows.lo1 c = c := by
  have := of_decide_eq_true (show decide ((97 ≤ c ∧ c ≤ 122) ∨ (48 ≤ c ∧ c ≤ 57)) = true from hc)
  unfold PyProof.Rows.lo1
  rw [if_neg (by omega)]
theorem lo_up {c : Nat} (hc : 65 ≤ c ∧ c ≤ 90) : al (PyProof.Rows.lo1 c) = true := by
  unfold PyProof.Rows.lo1 al
  rw [if_pos hc]
  exact decide_eq_true (.inl (by omega))
theorem lo_no {c : Nat} (h1 : al c = false) (h2 : ¬ (65 ≤ c ∧ c ≤ 90)) : PyProof.Rows.lo1 c = c := by
  unfold PyProof.Rows.lo1
  rw [if_neg h2]
theorem ws_trail {c : Nat} (hc : al c = false) : ∀ {l now : List Nat}, ws now (l ++ [c]) = ws now l
  | [], now => by
    have n : ¬ (al c = true) := by rw [hc]; simp
    show ws now [c] = ws now []
    simp only [ws, if_neg n, if_true]
  | d :: l, now => by
    simp only [List.cons_append, ws, ws_trail hc]
theorem sVs_app {a b : List (List Nat)} : sVs (a ++ b) = sVs a ++ sVs b := List.map_append
/-- the law's own words: what is under way, and the rest -/
theorem lwordsof_ok {l : List Nat} (hl : l.length ≤ 4000) : callF TT (k + 1) "_law_words_of" [.str (mkS l)] h = some (.ok (.lst (sVs (ws [] (l.map PyProof.Rows.lo1)))), h) := by
  refine pure_of (call_rp t_lwordsof ?_)
  unfold d__law_words_of b__law_words_of
  simp only [s_sp, s_alnum, s_upper, s_lowr, s_e]
  walk_at "ev"
  rw [mkS_app, fit_of (by rw [mkS_len, mkS_len]; unfold sizeLine; simp; omega)]
  walk_at "ev"
  have eW : ws [] ((l ++ [32]).map PyProof.Rows.lo1) = ws [] (l.map PyProof.Rows.lo1) := by
    rw [List.map_append]
    exact ws_trail (by decide)
  refine forL_map (fun c => PV.str ⟨#[c]⟩) (fun r env h' => h' = h ∧ ∃ (wl : List (List Nat)) (now : List Nat) (z : Sl), wl.length + now.length + r.length ≤ 4001 ∧ (∃ p, p ++ r = l ++ [32]) ∧ (r = [] → now = []) ∧ wl ++ ws now (r.map PyProof.Rows.lo1) = ws [] (l.map PyProof.Rows.lo1) ∧
    env = [.val (.str (mkS l)), .own (sVs wl), .val (.str (mkS now)), z]) ?_ ?_ _ _ _ ⟨rfl, [], [], _, by simp; omega, ⟨[], rfl⟩, fun _ => rfl, eW, rfl⟩
  · rintro env h' ⟨rfl, wl, now, z, _, _, hn, hw, rfl⟩
    walk_at "ev"
    rw [hn rfl, List.map_nil, ws, if_pos rfl, List.append_nil] at hw
    rw [hw]
  · rintro c r env h' ⟨rfl, wl, now, z, hlen, ⟨p, hp⟩, _, hw, rfl⟩
    simp only [List.length_cons] at hlen
    have hp' : (p ++ [c]) ++ r = l ++ [32] := by rw [← hp]; simp
    have last : r = [] → c = 32 := fun q => by
      subst q
      have := (List.append_inj' hp rfl).2
      simpa using this
    rw [List.map_cons] at hw
    walk_at "ev"
    rw [in_one, al_iff]
    cases ha : al c with
    | true =>
      walk_at "ev"
      rw [mkS_app, fit_of (by rw [mkS_len, mkS_len]; unfold sizeLine; simp; omega)]
      walk_at "ev"
      refine ⟨wl, now ++ [c], _, by simp; omega, ⟨_, hp'⟩, fun q => ?_, ?_, rfl⟩
      · rw [last q] at ha; cases ha
      · rw [← hw, lo_same ha, ws, if_pos ha]
    | false =>
      walk_at "ev"
      rw [in_one, upper_iff]
      by_cases hu : 65 ≤ c ∧ c ≤ 90
      · simp only [hu, and_self, decide_true]
        walk_at "ev"
        have hm : c ∈ upper := of_decide_eq_true (by rw [upper_iff]; exact decide_eq_true hu)
        obtain ⟨u1, u2⟩ := up_one (h := h') hm
        rw [u1]
        walk_at "ev"
        rw [u2]
        walk_at "ev"
        rw [mkS_app, fit_of (by rw [mkS_len, mkS_len]; unfold sizeLine; simp; omega)]
        walk_at "ev"
        refine ⟨wl, now ++ [PyProof.Rows.lo1 c], _, by simp; omega, ⟨_, hp'⟩, fun q => ?_, ?_, rfl⟩
        · have := last q; omega
        · rw [← hw, ws, if_pos (lo_up hu)]
      · simp only [hu, decide_false]
        walk_at "ev"
        rw [lo_no ha hu, ws, if_neg (by rw [ha]; simp)] at hw
        by_cases hn : now = []
        · subst hn
          simp only [decide_true]
          walk_at "ev"
          refine ⟨wl, [], _, by simp at hlen ⊢; omega, ⟨_, hp'⟩, fun _ => rfl, ?_, rfl⟩
          rw [if_pos rfl] at hw
          exact hw
        · rw [if_neg hn] at hw
          simp only [mkS_inj, hn, decide_false]
          have hz : (sVs wl).length < sizeLine := by unfold sVs sizeLine; rw [List.length_map]; omega
          walk_at "ev"
          simp only [hz, if_true]
          try walk_at "ev"
          have : 0 < now.length := List.length_pos_iff.mpr hn
          refine ⟨wl ++ [now], [], .val (.str (mkS [c])), by simp; omega, ⟨_, hp'⟩, fun _ => rfl, ?_, ?_⟩
          · rw [← hw, List.append_assoc]; rfl
          · rw [sVs_app]; rfl
theorem sg_ok {c : Nat} (hc : (97 ≤ c ∧ c ≤ 122) ∨ (48 ≤ c ∧ c ≤ 57)) : okc c := .inr (by omega)
theorem s_p1 : Str.ofString ", " = mkS [44, 32] := by decide +kernel
theorem s_p2 : Str.ofString ". " = mkS [46, 32] := by decide +kernel
theorem s_p3 : Str.ofString "-" = mkS [45] := by decide +kernel
theorem s_p4 : Str.ofString " *" = mkS [32, 42] := by decide +kernel
theorem s_p5 : Str.ofString "'" = mkS [39] := by decide +kernel
theorem xyz_ix : ([97, 98, 99, 120, 121, 122].all fun c => [0, 1, 2, 3, 4, 5].any fun i => decide (Builtin.Str.occurrences (mkS [97, 98, 99, 120, 121, 122]) (mkS [c]) 0 6 1 = [i])) = true := by decide +kernel
theorem xyz_one {c : Nat} (hc : c ∈ [97, 98, 99, 120, 121, 122]) : ∃ i : Nat, i < 6 ∧ sMt h .index (mkS [97, 98, 99, 120, 121, 122]) [.str (mkS [c])] = some (.int i) := by
  obtain ⟨i, hi, e⟩ := List.any_eq_true.mp (List.all_eq_true.mp xyz_ix c hc)
  have e := of_decide_eq_true e
  refine ⟨i, ?_, ?_⟩
  · simp only [List.mem_cons, List.not_mem_nil, or_false] at hi
    omega
  · show (match Builtin.Str.occurrences (mkS [97, 98, 99, 120, 121, 122]) (mkS [c]) 0 6 1 with
      | i :: _ => some (PV.int (i : Nat))
      | [] => none) = _
    rw [e]
theorem ABC_ok : ∀ c ∈ [65, 66, 67, 88, 89, 90], okc c := by unfold okc; decide
theorem prose_x {n : Nat} {s : Int} {row : List Int} (hr : row ≠ []) (a : At h n s) {wl : List (List Nat)} (hw : wl ≠ []) (hW : ∀ w ∈ wl, Wd w) {Q : PV → Hm → Prop} {E : XV → Hm → Prop} (q : ∀ l h' s', l.length ≤ 264 → (∀ c ∈ l, okc c) → At h' n s' → Q (.str (mkS l)) h') :
    RP (callF TT (k + 4) "_law_prose" [.lst (row.map .int), .ref n, .lst (sVs wl), .int 12] h) Q E := by
  refine call_rp t_prose ?_
  unfold d__law_prose b__law_prose
  simp only [s_e, s_sp, s_p1, s_p2, s_p3, s_p4, s_p5, s_nl, s_abcxyz, s_ABCXYZ]
  walk_at "ev"
  refine take_x sh hr a (by decide) fun v h1 s1 v0 v1 a1 => ?_
  walk_at "ev"
  rw [rg0 (by omega) (by omega)]
  walk_at "ev"
  refine forL_rng (fun j env h' => ∃ l s', l.length ≤ 22 * j ∧ (∀ c ∈ l, okc c) ∧ At h' n s' ∧ ∃ x y z, env = [.val (.lst (row.map .int)), .val (.ref n), .val (.lst (sVs wl)), .val (.int 12), .val (.str (mkS l)), x, y, z]) ?_ ?_ ⟨[], _, Nat.le_refl _, (fun c hc => by cases hc), a1, _, _, _, rfl⟩
  · rintro env h' ⟨l, s', hl, ho, a', x, y, z, rfl⟩
    walk_at "ev"
    exact q l h' s' (by omega) ho a'
  · rintro j env h' hj ⟨l, s', hl, ho, a', x, y, z, rfl⟩
    walk_at "ev"
    refine pick_x sh hr a' (by unfold sVs; simpa using hw) (by unfold sVs; simp [PV.nb]) fun w h2 s2 hw2 a2 => ?_
    obtain ⟨w, hwm, rfl⟩ := List.mem_map.mp hw2
    have W := hW w hwm
    walk_at "ev"
    refine take_x sh hr a2 (by decide) fun v2 h3 s3 v20 v21 a3 => ?_
    have hw1 := W.1
    have hw2 := W.2.1
    have tail : ∀ u : List Nat, u.length ≤ 20 → (∀ c ∈ u, okc c) → ∀ z1 : PV, OP (fit ((mkS l).length + (mkS u).length) (PV.str (mkS l ++ mkS u))) fun w1 =>
        RP (evE (callF TT (k + 3)) (.call "_law_pick" (.cons (.var 0) (.cons (.var 1) (.cons (.lst (.dsp (.cons (.cst (.str (mkS [32]))) (.cons (.cst (.str (mkS [32]))) (.cons (.cst (.str (mkS [44, 32]))) (.cons (.cst (.str (mkS [46, 32]))) (.cons (.cst (.str (mkS [10]))) (.cons (.cst (.str (mkS [45]))) (.cons (.cst (.str (mkS [32, 42]))) (.cons (.cst (.str (mkS [39]))) .nil)))))))))) .nil))))
          [.val (.lst (row.map .int)), .val (.ref n), .val (.lst (sVs wl)), .val (.int 12), .val (.str (mkS l)), .val (.int j), .val (.str (mkS u)), .val z1] h3)
          (fun v h2 => OP (bOp h2 .add w1 v) fun w2 => OP (ptSet [.val (.lst (row.map .int)), .val (.ref n), .val (.lst (sVs wl)), .val (.int 12), .val (.str (mkS l)), .val (.int j), .val (.str (mkS u)), .val z1] (.nm 4) w2) fun env' =>
            SP (evSs (callF TT (k + 3)) .nil env' h2) ⟨fun env h' => ∃ l s', l.length ≤ 22 * (j + 1) ∧ (∀ c ∈ l, okc c) ∧ At h' n s' ∧ ∃ x y z, env = [.val (.lst (row.map .int)), .val (.ref n), .val (.lst (sVs wl)), .val (.int 12), .val (.str (mkS l)), x, y, z],
              fun e h => SP (evSs (callF TT (k + 3)) (.cons (.ret (.var 4)) .nil) e h) (Ret Q E), fun env h' => ∃ l s', l.length ≤ 22 * (j + 1) ∧ (∀ c ∈ l, okc c) ∧ At h' n s' ∧ ∃ x y z, env = [.val (.lst (row.map .int)), .val (.ref n), .val (.lst (sVs wl)), .val (.int 12), .val (.str (mkS l)), x, y, z], (Ret Q E).rt, (Ret Q E).xc⟩) (Ret Q E).xc := by
      intro u lu ou z1
      rw [mkS_app, fit_of (by rw [mkS_len, mkS_len]; unfold sizeLine; omega)]
      walk_at "ev"
      rw [if_pos (by unfold sizeLine; decide)]
      refine pick_x sh hr a3 (by simp) (by simp [PV.nb]) fun x h4 s4 hx a4 => ?_
      have hx : ∃ m, m.length ≤ 2 ∧ (∀ c ∈ m, okc c) ∧ x = .str (mkS m) := by
        simp only [List.mem_cons, List.not_mem_nil, or_false] at hx
        rcases hx with rfl | rfl | rfl | rfl | rfl | rfl | rfl | rfl <;> exact ⟨_, by simp, by unfold okc; decide, rfl⟩
      obtain ⟨m, lm, om, rfl⟩ := hx
      walk_at "ev"
      rw [mkS_app, fit_of (by rw [mkS_len, mkS_len, List.length_append]; unfold sizeLine; omega)]
      walk_at "ev"
      refine ⟨l ++ u ++ m, _, by rw [List.length_append, List.length_append]; omega, fun c hc => ?_, a4, _, _, _, rfl⟩
      rcases List.mem_append.mp hc with hc | hc
      · rcases List.mem_append.mp hc with hc | hc
        · exact ho c hc
        · exact ou c hc
      · exact om c hc
    walk_at "ev"
    split
    · rw [atI_nn (by decide), List.getElem?_eq_getElem (show (0 : Int).toNat < w.length from hw1)]
      walk_at "ev"
      rw [in_one]
      by_cases hm : w[0] ∈ [97, 98, 99, 120, 121, 122]
      · obtain ⟨i, hi, ei⟩ := xyz_one (h := h3) hm
        have hk : i < [65, 66, 67, 88, 89, 90].length := hi
        have key : ∃ x : List Nat, x = [65, 66, 67, 88, 89, 90][i] :: w.drop 1 ∧ x.length ≤ 20 ∧ ∀ c ∈ x, okc c := by
          refine ⟨_, rfl, by simp; omega, fun c hc => ?_⟩
          rcases List.mem_cons.mp hc with rfl | hc
          · exact ABC_ok _ (List.getElem_mem hk)
          · exact sg_ok (W.2.2 c (List.mem_of_mem_drop hc))
        simp only [show (0 : Int).toNat = 0 from rfl, hm, decide_true]
        walk_at "ev"
        rw [atI_nn (by decide), List.getElem?_eq_getElem (show (0 : Int).toNat < w.length from hw1)]
        simp only [show (0 : Int).toNat = 0 from rfl]
        walk_at "ev"
        rw [ei]
        walk_at "ev"
        rw [atI_nn (by omega), List.getElem?_eq_getElem (show (i : Int).toNat < [65, 66, 67, 88, 89, 90].length from hi)]
        walk_at "ev"
        rw [cutS_from (by decide), mkS_app, fit_of (by rw [mkS_len, mkS_len, List.length_drop]; unfold sizeLine; simp; omega)]
        walk_at "ev"
        simp only [Int.toNat_natCast]
        obtain ⟨u, hu, lu, ou⟩ := key
        rw [show [65, 66, 67, 88, 89, 90][i] :: List.drop 1 w = u from hu.symm]
        exact tail u lu ou _
      · simp only [show (0 : Int).toNat = 0 from rfl, hm, decide_false]
        walk_at "ev"
        exact tail w hw2 (fun c hc => sg_ok (W.2.2 c hc)) _
    · exact tail w hw2 (fun c hc => sg_ok (W.2.2 c hc)) _
def sg1 : List Nat := [92, 42, 95, 91, 93, 123, 125, 124, 61, 45]
def sg2 : List Nat := [97, 98, 32, 42, 95, 92, 91, 123, 60, 38, 62, 34, 51]
def sg3 : List Nat := [97, 98, 99, 100, 101, 102, 103, 104, 32, 105, 106, 107, 108, 46, 44, 33, 88, 89, 90, 48, 49, 57, 39, 63]
theorem s_g1 : Str.ofString "\\*_[]{}|=-" = mkS sg1 := by decide +kernel
theorem s_g2 : Str.ofString "ab *_\\[{<&>\"3" = mkS sg2 := by decide +kernel
theorem s_g3 : Str.ofString "abcdefgh ijkl.,!XYZ019'?" = mkS sg3 := by decide +kernel
theorem sg_oks : (∀ c ∈ sg1, okc c) ∧ (∀ c ∈ sg2, okc c) ∧ ∀ c ∈ sg3, okc c := by unfold sg1 sg2 sg3 okc; decide
theorem signs_x {n : Nat} {s : Int} {row : List Int} (hr : row ≠ []) (a : At h n s) {Q : PV → Hm → Prop} {E : XV → Hm → Prop} (q : ∀ l h' s', l.length ≤ 8 → (∀ c ∈ l, okc c) → At h' n s' → Q (.str (mkS l)) h') :
    RP (callF TT (k + 3) "_law_signs" [.lst (row.map .int), .ref n, .int 8] h) Q E := by
  refine call_rp t_signs ?_
  unfold d__law_signs b__law_signs
  simp only [s_e, s_g1, s_g2, s_g3]
  walk_at "ev"
  refine take_x sh hr a (by decide) fun v h1 s1 v0 v1 a1 => ?_
  walk_at "ev"
  refine take_x sh hr a1 (by decide) fun v2 h2 s2 v20 v21 a2 => ?_
  walk_at "ev"
  rw [rg0 (by omega) (by omega)]
  walk_at "ev"
  refine forL_rng (fun j env h' => ∃ l s', l.length ≤ j ∧ (∀ c ∈ l, okc c) ∧ At h' n s' ∧ ∃ x, env = [.val (.lst (row.map .int)), .val (.ref n), .val (.int 8), .val (.str (mkS l)), .val (.int v), x]) ?_ ?_ ⟨[], _, Nat.le_refl _, (fun c hc => by cases hc), a2, _, rfl⟩
  · rintro env h' ⟨l, s', hl, ho, a', x, rfl⟩
    walk_at "ev"
    exact q l h' s' (by omega) ho a'
  · rintro j env h' hj ⟨l, s', hl, ho, a', x, rfl⟩
    have fin : ∀ c, okc c → (∀ d ∈ l ++ [c], okc d) := fun c hc d hd => by
      rcases List.mem_append.mp hd with hd | hd
      · exact ho d hd
      · rw [List.mem_singleton.mp hd]; exact hc
    walk_at "ev"
    split
    · refine sign_x sh hr a' (l := sg1) rfl (by decide) fun i h3 s3 c i0 ei ci a3 => ?_
      walk_at "ev"
      rw [ei]
      walk_at "ev"
      rw [mkS_app, fit_of (by rw [mkS_len, mkS_len]; unfold sizeLine; simp; omega)]
      walk_at "ev"
      exact ⟨l ++ [c], _, by simp; omega, fin c (sg_oks.1 c ci), a3, _, rfl⟩
    · split
      · refine sign_x sh hr a' (l := sg2) rfl (by decide) fun i h3 s3 c i0 ei ci a3 => ?_
        walk_at "ev"
        rw [ei]
        walk_at "ev"
        rw [mkS_app, fit_of (by rw [mkS_len, mkS_len]; unfold sizeLine; simp; omega)]
        walk_at "ev"
        exact ⟨l ++ [c], _, by simp; omega, fin c (sg_oks.2.1 c ci), a3, _, rfl⟩
      · refine sign_x sh hr a' (l := sg3) rfl (by decide) fun i h3 s3 c i0 ei ci a3 => ?_
        walk_at "ev"
        rw [ei]
        walk_at "ev"
        rw [mkS_app, fit_of (by rw [mkS_len, mkS_len]; unfold sizeLine; simp; omega)]
        walk_at "ev"
        exact ⟨l ++ [c], _, by simp; omega, fin c (sg_oks.2.2 c ci), a3, _, rfl⟩
theorem ws_len : ∀ (l now : List Nat), (ws now l).length ≤ l.length + 1
  | [], now => by
    rw [ws]
    split <;> simp
  | c :: l, now => by
    rw [ws]
    have h1 := ws_len l (now ++ [c])
    have h2 := ws_len l []
    split
    · simp; omega
    · split <;> (simp; omega)
theorem sVs_plain {wl : List (List Nat)} (hl : wl.length ≤ 4001) : plainV 1 (.tup (sVs wl)) = true := by
  show (decide ((sVs wl).length ≤ sizeLine) && (sVs wl).all (plainV 0)) = true
  unfold sVs
  simp only [List.length_map, Bool.and_eq_true, decide_eq_true_eq, List.all_map]
  refine ⟨by unfold sizeLine; omega, List.all_eq_true.mpr fun w _ => rfl⟩
theorem law_x (ns : List Int) : ∃ h', callF TT (k + 6) "law" [.scr (ns.map .int)] [] = some (.ok (.bl true), h') := by
  suffices q : RP (callF TT (k + 6) "law" [.scr (ns.map .int)] []) (fun a _ => a = .bl true) fun _ _ => False by
    obtain ⟨a, h', e, rfl⟩ := RP.ex q
    exact ⟨h', e⟩
  obtain ⟨row, hr, er⟩ := numbers_ok (k := k + 4) (h := []) sh.numbers ns
  refine call_rp t_law ?_
  unfold d_law b_law
  simp only [s_e]
  walk_at "ev"
  rw [RP_eq er]
  walk_at "ev"
  rw [if_pos (by unfold sizeLine; decide)]
  rw [rg0 (by decide) (by decide)]
  walk_at "ev"
  have a0 : At [.lst [.int 0]] 0 0 := ⟨rfl, by omega⟩
  refine lc_inv (fun r h' acc => ∃ s' wl, At h' 0 s' ∧ acc = sVs wl ∧ (∀ w ∈ wl, Wd w) ∧ wl.length + r.length = 4 ∧ ∀ x ∈ r, x.nb = true) ?_ ?_ _ _ _ ⟨0, [], a0, rfl, (fun w hw => by cases hw), rfl, by simp [PV.nb]⟩
  · rintro h1 acc ⟨s1, wl, a1, rfl, hW, hl, _⟩
    have hw : wl ≠ [] := fun q => by rw [q] at hl; simp at hl
    walk_at "ev"
    refine prose_x hr a1 hw hW fun l1 h2 s2 ll1 o1 a2 => ?_
    walk_at "ev"
    refine signs_x hr a2 fun l2 h3 s3 ll2 o2 a3 => ?_
    walk_at "ev"
    rw [mkS_app, fit_of (by rw [mkS_len, mkS_len]; unfold sizeLine; omega)]
    have ho : ∀ c ∈ l1 ++ l2, okc c := fun c hc => (List.mem_append.mp hc).elim (o1 c) (o2 c)
    have hll : (l1 ++ l2).length ≤ 4000 := by rw [List.length_append]; omega
    generalize l1 ++ l2 = l at ho hll
    have hlw := ws_len (l.map PyProof.Rows.lo1) []
    rw [List.length_map] at hlw
    walk_at "ev"
    rw [RP_eq (wordsof_ok hll ho)]
    walk_at "ev"
    rw [RP_eq (lwordsof_ok hll)]
    walk_at "ev"
    rw [RP_eq (so_refl sh.so 1 (k + 3) _ (sVs_plain (by omega)))]
    walk_at "ev"
    rw [RP_eq (wordsof_ok (l := []) (by decide) (fun c hc => by cases hc))]
    walk_at "ev"
    rw [show sVs (ws [] []) = [] from rfl, RP_eq (so_refl sh.so 1 (k + 3) (.tup []) rfl)]
    walk_at "ev"
    rw [show Str.ofString "A1b-C" = mkS [65, 49, 98, 45, 67] by decide +kernel, RP_eq (wordsof_ok (l := [65, 49, 98, 45, 67]) (by decide) (by unfold okc; decide))]
    walk_at "ev"
    try rw [if_pos (by unfold sizeLine; decide)]
    have e3 : sVs (ws [] ([65, 49, 98, 45, 67].map PyProof.Rows.lo1)) = [.str (Str.ofString "a1b"), .str (Str.ofString "c")] := by
      rw [show Str.ofString "a1b" = mkS [97, 49, 98] by decide +kernel, show Str.ofString "c" = mkS [99] by decide +kernel]; rfl
    simp only [List.map_cons, List.map_nil] at e3
    rw [e3, RP_eq (so_refl sh.so 1 (k + 3) (.tup [.str (Str.ofString "a1b"), .str (Str.ofString "c")]) rfl)]
    walk_at "ev"
  · rintro x r h1 acc ⟨s1, wl, a1, rfl, hW, hl, hx⟩
    simp only [List.length_cons] at hl
    have x1 := hx x (List.mem_cons_self ..)
    walk_at "ev"
    simp only [x1, if_true]
    try walk_at "ev"
    refine lword_x sh t_lword hr a1 fun l1 h2 s2 w1 a2 => ?_
    have hz : (sVs wl).length < sizeLine := by unfold sVs sizeLine; rw [List.length_map]; omega
    refine ⟨rfl, hz, s2, wl ++ [l1], a2, by rw [sVs_app]; rfl, fun w hw => ?_, by simp; omega, fun y hy => hx y (List.mem_cons_of_mem _ hy)⟩
    rcases List.mem_append.mp hw with hw | hw
    · exact hW w hw
    · rw [List.mem_singleton.mp hw]; exact w1
end PG.K43


open PySem
theorem PySem.Challenge.cw_pagestead_k43_words_of_texts_holds : PySem.Challenge.rw_pagestead_k43_words_of_texts.Holds := by
  exact PG.K43.fin fun ns _ => PG.K43.law_x (k := 54) ns


